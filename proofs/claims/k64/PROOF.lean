import PyProof.Rows.All
import Wide.All
import OpenK.AllK
import Wide.FinOn
import HandS.ForMost
import HandS.Exc
import HandS.WordsExc
import HandS.Defaults
import HandS.IsInst
import HandS.Wide
import HandS.Deep
import KE.KStateDown
import HandS.Ends
import HandS.More
import HandS.Head0
import HandS.Head1
import HandS.Head2
import HandS.HeadEnd
import HandS.HeadHook1
import HandS.HeadHook2
import HandS.Codes
import HandS.Dict
import HandS.List
import HandS.Zip
import HandS.Strs
import HandS.Iter
import HandS.Conv
import HandS.SetKeys
import HandS.TupAny
import KE.SortData
import HandS.Text
import HandS.Style
import PyProof.FitsInt
import PyProof.StrBlock2
import HandS.TupLe
import HandS.SortKw
import HandS.ExcOwn
import HandS.ExcIs
import KE.KExcIs
import HandS.Rev
import KE.KDictList
import KE.KeyNested
import KE.KDictWalk
import KE.KDictKeyed
import HandS.TupLen
import HandS.SetFor
import KE.SortCalls
import KE.DataCmp
import HandS.Set
import HandS.ExcInit
import HandS.ExcField
import OpenK.KCls
import HandS.TupMul
import KE.KIntText
import KE.KLam
import KE.SortKeyHeap
import KE.KSortKey
import HandS.Lambda
import HandS.Nested
import HandS.EndBits
import HandS.EndTab
import HandS.HeadHook3
import HandS.HeadHook4
import KE.KNest
import KE.KDictDisplayH
import HandS.TupSets
import PySem.Challenge.RW_knewby_k64_hops_traced
set_option Elab.async false
set_option linter.all false
set_option maxRecDepth 100000
set_option maxHeartbeats 40000000
namespace Kn
open PySem PySem.Spec PyProof.Rows L2
def Gw (H H' : Hp) : Prop := ∀ a o, H a = some o → H' a = some o
theorem Gw.refl (H : Hp) : Gw H H := fun _ _ h => h
theorem Gw.trans {H H1 H2 : Hp} (a : Gw H H1) (b : Gw H1 H2) : Gw H H2 := fun x o h => b x o (a x o h)
theorem Gw.new {H : Hp} {p : Addr} {o : HO} (h : H p = none) : Gw H (upd H p o) := fun a u e => by
  rw [upd_ne (ne_of_none e h)]
  exact e
theorem Gw.free {H H' : Hp} (e : Gw H H') {p : Addr} (h : H' p = none) : H p = none := by
  cases q : H p with
  | none => rfl
  | some o => rw [e p o q] at h; cases h
theorem Gw.upd {H H' : Hp} (e : Gw H H') {p : Addr} {o : HO} (h : H' p = none) : Gw (upd H p o) (upd H' p o) := fun a u q => by
  by_cases ha : a = p
  · subst ha; rw [upd_same] at q ⊢; exact q
  · rw [upd_ne ha] at q ⊢; exact e a u q
theorem gw_rd {H H' : Hp} {a : Addr} {u : HO} (e : Gw H H') (h : Rd H a u) : Rd H' a u := by
  rcases h with h | ⟨o, h⟩
  · exact Or.inl (e a _ h)
  · exact Or.inr ⟨o, e a _ h⟩
theorem gw_l {K : PySem.W.Frag} {H H' : Hp} {a : Addr} {xs : List V} (e : Gw H H') (h : SqL K H a xs) : SqL K H' a xs := by
  rcases h with h | h
  · exact Or.inl (gw_rd e h)
  · exact Or.inr h
theorem gw_t {K : PySem.W.Frag} {H H' : Hp} {a : Addr} {xs : List V} (e : Gw H H') (h : SqT K H a xs) : SqT K H' a xs := by
  rcases h with h | h
  · exact Or.inl (gw_rd e h)
  · exact Or.inr h
structure D where
  ok : Hp → V → Prop
  mono : ∀ {F F' : Hp} {v : V}, Gw F F' → ok F v → ok F' v
def dV (v : V) : D := ⟨fun _ u => u = v, fun _ h => h⟩
abbrev dN : D := dV .non
abbrev dI (i : Int) : D := dV (.int i)
abbrev dB (b : Bool) : D := dV (.bl b)
def okS (s : Str) : Prop := PyData.strOk s = true ∧ s.length ≤ sizeLine
def okSb (s : Str) : Bool := PyData.strOk s && decide (s.length ≤ 16777216)
theorem okS_of {s : Str} (h : okSb s = true) : okS s := by
  unfold okSb at h
  simp only [Bool.and_eq_true, decide_eq_true_eq] at h
  exact ⟨h.1, by rw [sizeLine_eq]; exact h.2⟩
def dS (s : Str) : D := ⟨fun _ v => v = .str s ∧ okS s, fun _ h => h⟩
theorem strOk_iff {s : Str} : PyData.strOk s = true ↔ ∀ c ∈ s.cps.toList, c < 0x110000 := by
  unfold PyData.strOk
  rw [Array.all_eq_true']
  constructor
  · intro h c hc
    exact of_decide_eq_true (h c (Array.mem_toList_iff.mp hc))
  · intro h c hc
    exact decide_eq_true (h c (Array.mem_toList_iff.mpr hc))
theorem okS_app {i j : Str} (hi : okS i) (hj : okS j) (hl : i.length + j.length ≤ sizeLine) : okS (i ++ j) := by
  have e : (i ++ j).cps.toList = i.cps.toList ++ j.cps.toList := by
    show (i.cps ++ j.cps).toList = _
    exact Array.toList_append
  refine ⟨strOk_iff.mpr fun c hc => ?_, ?_⟩
  · rw [e] at hc
    rcases List.mem_append.mp hc with h | h
    · exact strOk_iff.mp hi.1 c h
    · exact strOk_iff.mp hj.1 c h
  · show (i.cps ++ j.cps).size ≤ _
    rw [Array.size_append]
    exact hl
theorem okS_sign {z : Str} {c : Nat} (hz : okS z) (hc : c ∈ z.cps.toList) : okS ⟨#[c]⟩ := by
  refine ⟨strOk_iff.mpr fun d hd => ?_, ?_⟩
  · have e : d = c := by simpa using hd
    rw [e]
    exact strOk_iff.mp hz.1 c hc
  · rw [sizeLine_eq]
    exact Nat.le_of_ble_eq_true rfl
abbrev dP (a : Addr) : D := dV (.ref a)
def AllD (F : Hp) : List D → List V → Prop
  | [], [] => True
  | d :: ds, v :: vs => d.ok F v ∧ AllD F ds vs
  | _, _ => False
theorem AllD.mono {F F' : Hp} (e : Gw F F') : ∀ {ds : List D} {vs : List V}, AllD F ds vs → AllD F' ds vs
  | [], [], _ => trivial
  | _ :: _, _ :: _, h => ⟨D.mono _ e h.1, AllD.mono e h.2⟩
  | [], _ :: _, h => h.elim
  | _ :: _, [], h => h.elim
theorem AllD.length {F : Hp} : ∀ {ds : List D} {vs : List V}, AllD F ds vs → vs.length = ds.length
  | [], [], _ => rfl
  | _ :: _, _ :: _, h => by simp [AllD.length h.2]
  | [], _ :: _, h => h.elim
  | _ :: _, [], h => h.elim
theorem AllD.get {F : Hp} : ∀ {ds : List D} {vs : List V} {i : Nat} {d : D}, AllD F ds vs → ds[i]? = some d → ∃ v, vs[i]? = some v ∧ d.ok F v
  | [], [], _, _, _, e => by simp at e
  | _ :: _, v :: _, 0, _, h, e => by simp at e; subst e; exact ⟨v, rfl, h.1⟩
  | _ :: _, _ :: _, i + 1, d, h, e => by
    obtain ⟨v, h1, h2⟩ := AllD.get (i := i) (d := d) h.2 (by simpa using e)
    exact ⟨v, by simpa using h1, h2⟩
  | [], _ :: _, _, _, h, _ => h.elim
  | _ :: _, [], _, _, h, _ => h.elim
theorem AllD.append {F : Hp} : ∀ {ds es : List D} {vs us : List V}, AllD F ds vs → AllD F es us → AllD F (ds ++ es) (vs ++ us)
  | [], _, [], _, _, q => q
  | _ :: _, _, _ :: _, _, h, q => ⟨h.1, AllD.append h.2 q⟩
  | [], _, _ :: _, _, h, _ => h.elim
  | _ :: _, _, [], _, h, _ => h.elim
theorem AllD.drop {F : Hp} : ∀ {ds : List D} {vs : List V} (n : Nat), AllD F ds vs → AllD F (ds.drop n) (vs.drop n)
  | _, _, 0, h => h
  | [], [], _ + 1, h => h
  | _ :: _, _ :: _, n + 1, h => AllD.drop n h.2
  | [], _ :: _, _, h => h.elim
  | _ :: _, [], _, h => h.elim
theorem AllD.take {F : Hp} : ∀ {ds : List D} {vs : List V} (n : Nat), AllD F ds vs → AllD F (ds.take n) (vs.take n)
  | _, _, 0, _ => trivial
  | [], [], _ + 1, h => h
  | _ :: _, _ :: _, n + 1, h => ⟨h.1, AllD.take n h.2⟩
  | [], _ :: _, _, h => h.elim
  | _ :: _, [], _, h => h.elim
theorem AllD.set {F : Hp} {d : D} {v : V} (q : d.ok F v) : ∀ {ds : List D} {vs : List V} (n : Nat), AllD F ds vs → AllD F (ds.set n d) (vs.set n v)
  | [], [], _, h => h
  | _ :: _, _ :: _, 0, h => ⟨q, h.2⟩
  | _ :: _, _ :: _, n + 1, h => ⟨h.1, AllD.set q n h.2⟩
  | [], _ :: _, _, h => h.elim
  | _ :: _, [], _, h => h.elim
theorem AllD.dV {F : Hp} : ∀ {xs vs : List V}, AllD F (xs.map dV) vs → vs = xs
  | [], [], _ => rfl
  | x :: xs, v :: vs, h => by
    have h1 : v = x := h.1
    rw [h1, AllD.dV (xs := xs) (vs := vs) h.2]
  | [], _ :: _, h => h.elim
  | _ :: _, [], h => h.elim
theorem AllD.dS {F : Hp} : ∀ {xs : List Str} {vs : List V}, AllD F (xs.map Kn.dS) vs → vs = xs.map V.str ∧ ∀ s ∈ xs, okS s
  | [], [], _ => ⟨rfl, fun _ h => nomatch h⟩
  | x :: xs, v :: vs, h => by
    have h1 : v = .str x ∧ okS x := h.1
    obtain ⟨h2, h3⟩ := AllD.dS (xs := xs) (vs := vs) h.2
    rw [h1.1, h2]
    refine ⟨rfl, fun s hs => ?_⟩
    rcases List.mem_cons.mp hs with rfl | hs
    · exact h1.2
    · exact h3 s hs
  | [], _ :: _, h => h.elim
  | _ :: _, [], h => h.elim
theorem allD_dS {F : Hp} : ∀ (xs : List Str), (∀ s ∈ xs, okS s) → AllD F (xs.map Kn.dS) (xs.map V.str)
  | [], _ => trivial
  | x :: xs, h => ⟨⟨rfl, h x List.mem_cons_self⟩, allD_dS xs fun s hs => h s (List.mem_cons_of_mem _ hs)⟩
theorem allD_dV {F : Hp} : ∀ (xs : List V), AllD F (xs.map dV) xs
  | [] => trivial
  | _ :: xs => ⟨rfl, allD_dV xs⟩
def dTup (K : PySem.W.Frag) (ds : List D) : D := ⟨fun F u => ∃ a vs, u = .ref a ∧ SqT K F a vs ∧ AllD F ds vs, fun e ⟨a, vs, h1, h2, h3⟩ => ⟨a, vs, h1, gw_t e h2, AllD.mono e h3⟩⟩
def LsA (K : PySem.W.Frag) (F : Hp) (a : Addr) (xs : List V) : Prop := Rd F a (.lst xs) ∨ ∃ (its : Array Value) (n : Nat), K.lookup a = some { cls := .type "list", data := .seq its n } ∧ its.size ≤ sizeLine ∧ Vals xs its.toList
theorem LsA.mono {K : PySem.W.Frag} {F F' : Hp} {a : Addr} {xs : List V} (e : Gw F F') (h : LsA K F a xs) : LsA K F' a xs := h.imp (gw_rd e) id
theorem LsA.sq {K : PySem.W.Frag} {F : Hp} {a : Addr} {xs : List V} (h : LsA K F a xs) : SqL K F a xs := by
  rcases h with h | ⟨its, n, h1, h2, h3⟩
  · exact .inl h
  · exact .inr ⟨_, its, n, h1, rfl, rfl, rfl, h2, h3⟩
theorem LsA.get {X : Cx} {pins : List (Addr × Obj)} {σ : L2.St} {H : Hp} {s : Shared} {a : Addr} {xs : List V} (I : Inv X pins σ H s) (h : LsA X.K H a xs) : ∃ (its : List Value) (n : Nat), Vals xs its ∧ s.heap.get? a = some { cls := .type "list", data := .seq its.toArray n } ∧ xs.length ≤ sizeLine := by
  rcases h with h | ⟨its, n, h1, h2, h3⟩
  · obtain ⟨z, its, n, r, e⟩ := h.ok I.hok
    exact ⟨its, n, r, e, z⟩
  · refine ⟨its.toList, n, h3, I.kIn a _ h1, ?_⟩
    have e := h3.length
    rw [e, Array.length_toList]
    exact h2
def dLst (K : PySem.W.Frag) (ds : List D) : D := ⟨fun F u => ∃ a vs, u = .ref a ∧ LsA K F a vs ∧ AllD F ds vs, fun e ⟨a, vs, h1, h2, h3⟩ => ⟨a, vs, h1, h2.mono e, AllD.mono e h3⟩⟩
def dO {α : Type} (f : α → D) : Option α → D
  | none => dN
  | some a => f a
structure OD where
  ok : Hp → HO → Prop
  mono : ∀ {F F' : Hp} {o : HO}, Gw F F' → ok F o → ok F' o
def oLst (ds : List D) : OD := ⟨fun F o => ∃ vs, o = .lst vs ∧ AllD F ds vs, fun e ⟨vs, h1, h2⟩ => ⟨vs, h1, AllD.mono e h2⟩⟩
abbrev Own := List (Addr × OD)
structure HoldO (F : Hp) (O : Own) (H : Hp) : Prop where
  ex : Gw F H
  nd : (O.map (·.1)).Nodup
  ow : ∀ q ∈ O, F q.1 = none ∧ ∃ o, H q.1 = some o ∧ q.2.ok F o
abbrev Fr := List (Option D)
def FrOk (F : Hp) (Γ : Fr) (σ : L2.St) : Prop := Γ.length = σ.length ∧ ∀ (i : Nat) (d : D), Γ[i]? = some (some d) → ∃ v, σ[i]? = some (some v) ∧ d.ok F v
structure Hold (F : Hp) (Γ : Fr) (O : Own) (σ : L2.St) (H : Hp) : Prop where
  fr : FrOk F Γ σ
  ho : HoldO F O H
theorem FrOk.mono {F F' : Hp} {Γ : Fr} {σ : L2.St} (e : Gw F F') (h : FrOk F Γ σ) : FrOk F' Γ σ := ⟨h.1, fun i d q => by
  obtain ⟨v, h1, h2⟩ := h.2 i d q
  exact ⟨v, h1, d.mono e h2⟩⟩
theorem FrOk.set {F : Hp} {Γ : Fr} {σ : L2.St} {d : D} {v : V} (i : Nat) (h : FrOk F Γ σ) (q : d.ok F v) : FrOk F (Γ.set i (some d)) (σ.set i (some v)) := by
  refine ⟨by rw [List.length_set, List.length_set]; exact h.1, fun j e z => ?_⟩
  by_cases hj : i = j
  · subst hj
    by_cases hi : i < Γ.length
    · rw [List.getElem?_set_self hi] at z
      cases z
      exact ⟨v, by rw [List.getElem?_set_self (by rw [← h.1]; exact hi)], q⟩
    · rw [List.getElem?_eq_none (by rw [List.length_set]; omega)] at z
      cases z
  · rw [List.getElem?_set_ne hj] at z ⊢
    exact h.2 j e z
theorem HoldO.laid {F : Hp} {O : Own} {H : Hp} {p : Addr} {o : HO} (h : HoldO F O H) (hp : H p = none) : HoldO (upd F p o) O (upd H p o) ∧ Gw F (upd F p o) := by
  have hf := h.ex.free hp
  have ef : Gw F (upd F p o) := Gw.new hf
  refine ⟨⟨h.ex.upd hp, h.nd, fun q hq => ?_⟩, ef⟩
  obtain ⟨h1, u, h2, h3⟩ := h.ow q hq
  have hne : q.1 ≠ p := ne_of_none h2 hp
  exact ⟨by rw [upd_ne hne]; exact h1, u, by rw [upd_ne hne]; exact h2, q.2.mono ef h3⟩
theorem HoldO.own {F : Hp} {O : Own} {H : Hp} {p : Addr} {o : HO} {od : OD} (h : HoldO F O H) (hp : H p = none) (ho : od.ok F o) : HoldO F ((p, od) :: O) (upd H p o) := by
  have hf := h.ex.free hp
  refine ⟨h.ex.trans (Gw.new hp), ?_, fun q hq => ?_⟩
  · rw [List.map_cons, List.nodup_cons]
    refine ⟨fun hm => ?_, h.nd⟩
    obtain ⟨q, hq, e⟩ := List.mem_map.mp hm
    obtain ⟨_, u, h2, _⟩ := h.ow q hq
    have e' : q.1 = p := e
    rw [e', hp] at h2
    cases h2
  · rcases List.mem_cons.mp hq with rfl | hq
    · exact ⟨hf, o, upd_same, ho⟩
    · obtain ⟨h1, u, h2, h3⟩ := h.ow q hq
      exact ⟨h1, u, by rw [upd_ne (ne_of_none h2 hp)]; exact h2, h3⟩
theorem HoldO.freeze {F : Hp} {O : Own} {H : Hp} {p : Addr} {od : OD} (h : HoldO F ((p, od) :: O) H) : ∃ o, H p = some o ∧ od.ok F o ∧ Gw F (upd F p o) ∧ HoldO (upd F p o) O H := by
  obtain ⟨hf, o, hp, ho⟩ := h.ow (p, od) List.mem_cons_self
  have hn := List.nodup_cons.mp h.nd
  refine ⟨o, hp, ho, Gw.new hf, ⟨fun a u q => ?_, hn.2, fun q hq => ?_⟩⟩
  · by_cases ha : a = p
    · subst ha; rw [upd_same] at q; rw [← q]; exact hp
    · rw [upd_ne ha] at q; exact h.ex a u q
  · obtain ⟨h1, u, h2, h3⟩ := h.ow q (List.mem_cons_of_mem _ hq)
    have hne : q.1 ≠ p := fun e => hn.1 (List.mem_map.mpr ⟨q, hq, e⟩)
    exact ⟨by rw [upd_ne hne]; exact h1, u, h2, q.2.mono (Gw.new hf) h3⟩
theorem HoldO.drop {F : Hp} {O : Own} {H : Hp} {c : Addr × OD} (h : HoldO F (c :: O) H) : HoldO F O H :=
  ⟨h.ex, (List.nodup_cons.mp h.nd).2, fun q hq => h.ow q (List.mem_cons_of_mem _ hq)⟩
theorem HoldO.at {F : Hp} {O : Own} {H : Hp} {p : Addr} {od : OD} (h : HoldO F O H) {k : Nat} (hk : O[k]? = some (p, od)) : F p = none ∧ ∃ o, H p = some o ∧ od.ok F o := h.ow (p, od) (List.mem_of_getElem? hk)
theorem HoldO.write {F : Hp} {O : Own} {H : Hp} {p : Addr} {od od' : OD} {o' : HO} (h : HoldO F O H) {k : Nat} (hk : O[k]? = some (p, od)) (ho : od'.ok F o') : HoldO F (O.set k (p, od')) (upd H p o') := by
  obtain ⟨hf, o, hp, _⟩ := h.at hk
  obtain ⟨hlt, hge⟩ := List.getElem?_eq_some_iff.mp hk
  have em : (O.set k (p, od')).map (·.1) = O.map (·.1) := by
    rw [List.map_set]
    refine List.ext_getElem? fun i => ?_
    by_cases hi : k = i
    · subst hi
      rw [List.getElem?_set_self (by rw [List.length_map]; exact hlt), List.getElem?_map, hk]
      rfl
    · rw [List.getElem?_set_ne hi]
  refine ⟨fun a u q => ?_, by rw [em]; exact h.nd, fun q hq => ?_⟩
  · rw [upd_ne (ne_of_none q hf)]; exact h.ex a u q
  · obtain ⟨i, hi, e⟩ := List.mem_iff_getElem.mp hq
    rw [List.length_set] at hi
    rw [List.getElem_set] at e
    by_cases hik : k = i
    · rw [if_pos hik] at e
      subst e
      exact ⟨hf, o', upd_same, ho⟩
    · rw [if_neg hik] at e
      subst e
      obtain ⟨h1, u, h2, h3⟩ := h.ow O[i] (List.getElem_mem hi)
      have hne : (O[i]).1 ≠ p := fun e => by
        have nd := h.nd
        have a1 : (O.map (·.1))[i]'(by rw [List.length_map]; exact hi) = p := by rw [List.getElem_map]; exact e
        have a2 : (O.map (·.1))[k]'(by rw [List.length_map]; exact hlt) = p := by rw [List.getElem_map, hge]
        exact hik ((List.getElem_inj nd).mp (a2.trans a1.symm))
      exact ⟨h1, u, by rw [upd_ne hne]; exact h2, h3⟩
theorem Hold.mono {F F' : Hp} {Γ : Fr} {O O' : Own} {σ : L2.St} {H H' : Hp} (h : Hold F Γ O σ H) (e : Gw F F') (k : HoldO F' O' H') : Hold F' Γ O' σ H' := ⟨h.fr.mono e, k⟩
theorem Hold.set {F : Hp} {Γ : Fr} {O : Own} {σ : L2.St} {H : Hp} {d : D} {v : V} (i : Nat) (h : Hold F Γ O σ H) (q : d.ok F v) : Hold F (Γ.set i (some d)) O (σ.set i (some v)) H := ⟨h.fr.set i q, h.ho⟩
end Kn
namespace Kn
open PySem PySem.Spec L2
structure Cfg where
  P : Program
  w : World
  K : PySem.W.Frag
  mg : Str → Option Value
  base : Heap
structure Sc where
  k : Nat
  N : List Str
  sc : Scope
  top : Bool := true
  calm : Bool := true
structure InC (G : Cfg) (C : Sc) (X : Cx) : Prop where
  p : X.prog = G.P
  w : X.w = G.w
  K : X.K = G.K
  mg : X.mg = G.mg
  base : X.base = G.base
  n : X.N = C.N
  sc : X.env.scope = C.sc
  calm : C.calm = true → X.calm = true
  un : X.A.units + 16 * C.k + 200 < cLine
  dp : X.A.depth + 3 * C.k + 5 < recursionLimit
  hdl : C.calm = true → X.A.handled = none
  st : C.top = true → X.stack = X.env :: X.outer ∧ X.env.frame = some X.env.locals
  po : PassesOwn (model X.prog X.w) X.A X.env X.xe
  fn : C.top = true → ∀ x, X.fn x = true
class Calm (C : Sc) : Prop where
  c : C.calm = true
theorem InC.room {G : Cfg} {C : Sc} [Calm C] {X : Cx} (c : InC G C X) : Room C.k X.A := ⟨c.hdl Calm.c, c.dp, c.un⟩
theorem InC.units {G : Cfg} {C : Sc} {X : Cx} (c : InC G C X) : X.A.units + 64 < cLine := by have := c.un; omega
theorem InC.cm {G : Cfg} {C : Sc} [Calm C] {X : Cx} (c : InC G C X) : X.calm = true := c.calm Calm.c
def WE (X : Cx) (e : Expr) : TE := fun σ H Q => ∀ (pins : List (Addr × Obj)) (s : Shared), Inv X pins σ H s → wpAny (model X.prog X.w) X.A (eval e X.env) (EP X pins σ Q) X.xe s
def WT (X : Cx) (e : Expr) : TT := fun σ H Q => ∀ (pins : List (Addr × Obj)) (s : Shared), Inv X pins σ H s → wpAny (model X.prog X.w) X.A (isTrue e X.env (eval e X.env)) (TP X pins σ Q) X.xe s
def WW (X : Cx) (e : Expr) : TT := fun σ H Q => ∀ (whole : Sem Value) (pins : List (Addr × Obj)) (s : Shared), Inv X pins σ H s → wpAny (model X.prog X.w) X.A (isTrue e X.env whole) (TP X pins σ Q) X.xe s
def WA (X : Cx) (es : List Expr) : TA := fun σ H Q => ∀ (pos : Pos) (pins : List (Addr × Obj)) (s : Shared), Inv X pins σ H s → wpAny (model X.prog X.w) X.A (spliced (backTo pos (starEach es X.env))) (AP X pins σ Q) X.xe s
theorem pe_can {X : Cx} {e : Expr} : PE X e (WE X e) := ⟨fun pins s _ _ _ I h => h pins s I⟩
theorem pt_can {X : Cx} {e : Expr} : PT X e (WT X e) := ⟨fun pins s _ _ _ I h => h pins s I⟩
theorem pw_can {X : Cx} {e : Expr} : PW X e (WW X e) := ⟨fun wh pins s _ _ _ I h => h wh pins s I⟩
theorem pa_can {X : Cx} {es : List Expr} : PA X es (WA X es) := ⟨fun pos pins s _ _ _ I h => h pos pins s I⟩
theorem we_of {X : Cx} {e : Expr} {t : TE} {σ : L2.St} {H : Hp} {Q : VK} (h : PE X e t) (q : t σ H Q) : WE X e σ H Q := fun pins s I => h.run pins s σ H Q I q
theorem wt_of {X : Cx} {e : Expr} {t : TT} {σ : L2.St} {H : Hp} {Q : Bool → Hp → Prop} (h : PT X e t) (q : t σ H Q) : WT X e σ H Q := fun pins s I => h.run pins s σ H Q I q
theorem ww_of {X : Cx} {e : Expr} {t : TT} {σ : L2.St} {H : Hp} {Q : Bool → Hp → Prop} (h : PW X e t) (q : t σ H Q) : WW X e σ H Q := fun wh pins s I => h.run wh pins s σ H Q I q
theorem wa_of {X : Cx} {es : List Expr} {t : TA} {σ : L2.St} {H : Hp} {Q : List V → Hp → Prop} (h : PA X es t) (q : t σ H Q) : WA X es σ H Q := fun pos pins s I => h.run pos pins s σ H Q I q
structure E (G : Cfg) (C : Sc) (e : Expr) (Γ : Fr) (O : Own) (d : D) : Prop where
  run : ∀ X, InC G C X → ∀ (F : Hp) (σ : L2.St) (H : Hp), Hold F Γ O σ H → ∀ Q : VK, (∀ F' H' v, Gw F F' → Hold F' Γ O σ H' → d.ok F' v → Q v H') → WE X e σ H Q
structure EN (G : Cfg) (C : Sc) (e : Expr) (Γ : Fr) (O : Own) (od : OD) : Prop where
  run : ∀ X, InC G C X → ∀ (F : Hp) (σ : L2.St) (H : Hp), Hold F Γ O σ H → ∀ Q : VK, (∀ F' H' p, Gw F F' → Hold F' Γ ((p, od) :: O) σ H' → Q (.ref p) H') → WE X e σ H Q
structure T (G : Cfg) (C : Sc) (e : Expr) (Γ : Fr) (O : Own) (b : Bool) : Prop where
  run : ∀ X, InC G C X → ∀ (F : Hp) (σ : L2.St) (H : Hp), Hold F Γ O σ H → ∀ Q : Bool → Hp → Prop, (∀ F' H', Gw F F' → Hold F' Γ O σ H' → Q b H') → WT X e σ H Q
structure TW (G : Cfg) (C : Sc) (e : Expr) (Γ : Fr) (O : Own) (b : Bool) : Prop where
  run : ∀ X, InC G C X → ∀ (F : Hp) (σ : L2.St) (H : Hp), Hold F Γ O σ H → ∀ Q : Bool → Hp → Prop, (∀ F' H', Gw F F' → Hold F' Γ O σ H' → Q b H') → WW X e σ H Q
structure A (G : Cfg) (C : Sc) (es : List Expr) (Γ : Fr) (O : Own) (ds : List D) : Prop where
  st : ∀ env, (starEach es env).any (·.1) = false
  run : ∀ X, InC G C X → ∀ (F : Hp) (σ : L2.St) (H : Hp), Hold F Γ O σ H → ∀ Q : List V → Hp → Prop, (∀ F' H' vs, Gw F F' → Hold F' Γ O σ H' → AllD F' ds vs → Q vs H') → WA X es σ H Q
def R2D (r : R2) (O : Own) (da db d : D) : Prop := ∀ F H v u, HoldO F O H → da.ok F v → db.ok F u → ∀ Q : VK, (∀ F' H' z, Gw F F' → HoldO F' O H' → d.ok F' z → Q z H') → r v u H Q
def RCD (r : List V → Hp → VK → Prop) (O : Own) (ds : List D) (d : D) : Prop := ∀ F H vs, HoldO F O H → AllD F ds vs → ∀ Q : VK, (∀ F' H' z, Gw F F' → HoldO F' O H' → d.ok F' z → Q z H') → r vs H Q
def RCN (r : List V → Hp → VK → Prop) (O : Own) (ds : List D) (od : OD) : Prop := ∀ F H vs, HoldO F O H → AllD F ds vs → ∀ Q : VK, (∀ F' H' p, Gw F F' → HoldO F' ((p, od) :: O) H' → Q (.ref p) H') → r vs H Q
section
variable {G : Cfg} {C : Sc} {Γ : Fr} {O : Own} {e a b c : Expr} {es : List Expr} {d da db dc : D} {ds : List D} {pos p1 p2 : Pos} {x : Str}
structure Var (C : Sc) (i : Nat) (x : Str) : Prop where
  n : C.N[i]? = some x
  v : Vis C.sc x
  d : (x == ("__debug__" : Str)) = false
  c : (x == ("__classdict__" : Str)) = false
def varB (C : Sc) (i : Nat) (x : Str) : Bool := decide (C.N[i]? = some x) && (match C.sc.names.lookup x with
  | some .local => true
  | some .cell => true
  | some .free => true
  | _ => false) && !(x == ("__debug__" : Str)) && !(x == ("__classdict__" : Str))
theorem var_of {C : Sc} {i : Nat} {x : Str} (h : varB C i x = true) : Var C i x := by
  unfold varB at h
  simp only [Bool.and_eq_true, decide_eq_true_eq, Bool.not_eq_true'] at h
  obtain ⟨⟨⟨h1, h2⟩, h3⟩, h4⟩ := h
  refine ⟨h1, ?_, h3, h4⟩
  unfold Vis
  revert h2
  cases C.sc.names.lookup x with
  | none => intro h; cases h
  | some k => cases k <;> intro h <;> first | exact .inl rfl | exact .inr (.inl rfl) | exact .inr (.inr rfl) | cases h
theorem e_var {i : Nat} (v : Var C i x) (hd : Γ[i]? = some (some d)) : E G C (.Name x pos) Γ O d := .mk fun X c F σ H h Q q => by
  obtain ⟨u, h1, h2⟩ := h.fr.2 i d hd
  exact we_of (pe_var (by rw [c.n]; exact v.n) (by rw [c.sc]; exact v.v) v.d v.c) ⟨u, h1, q F H u (Gw.refl F) h h2⟩
theorem e_const {v : V} (h : ∀ X, PE X e (tC v)) : E G C e Γ O (dV v) := .mk fun X c F σ H hh Q q => we_of (h X) (q F H v (Gw.refl F) hh rfl)
theorem e_int {i : Int} {j : Nat} : E G C (.Constant (.int i) j pos) Γ O (dI i) := e_const fun _ => pe_int
theorem e_bool {i : Bool} {j : Nat} : E G C (.Constant (.bool i) j pos) Γ O (dB i) := e_const fun _ => pe_bl
theorem e_none {j : Nat} : E G C (.Constant .none j pos) Γ O dN := e_const fun _ => pe_non
theorem e_str {i : Str} {j : Nat} (ho : okSb i = true := by decide +kernel) : E G C (.Constant (.str i) j pos) Γ O (dS i) := .mk fun X c F σ H hh Q q => we_of pe_str (q F H _ (Gw.refl F) hh ⟨rfl, okS_of ho⟩)
def Glo (C : Sc) (x : Str) : Prop := C.sc.names.lookup x = some .globalImplicit ∧ (x == ("__debug__" : Str)) = false ∧ x ≠ "__name__"
def gloB (C : Sc) (x : Str) : Bool := (match C.sc.names.lookup x with
  | some .globalImplicit => true
  | _ => false) && !(x == ("__debug__" : Str)) && !(x == ("__name__" : Str))
theorem glo_of {C : Sc} {x : Str} (h : gloB C x = true) : Glo C x := by
  unfold gloB at h
  simp only [Bool.and_eq_true, Bool.not_eq_true'] at h
  obtain ⟨⟨h1, h2⟩, h3⟩ := h
  refine ⟨?_, h2, fun e => by rw [e] at h3; simp at h3⟩
  revert h1
  cases C.sc.names.lookup x with
  | none => intro h; cases h
  | some k => cases k <;> intro h <;> first | rfl | cases h
theorem InC.gl {X : Cx} (c : InC G C X) (g : Glo C x) : Gl X x := by
  show X.env.scope.names.lookup x = _
  rw [c.sc]; exact g.1
theorem e_glob {v : V} {u : Value} (g : Glo C x) (hm : G.mg x = some u) (r : RelV v u) : E G C (.Name x pos) Γ O (dV v) := .mk fun X c F σ H hh Q q =>
  we_of (pe_glob (c.gl g) (by rw [c.mg]; exact hm) r g.2.1) (q F H v (Gw.refl F) hh rfl)
theorem e_as {d' : D} (h : E G C e Γ O d) (k : ∀ F v, d.ok F v → d'.ok F v) : E G C e Γ O d' := .mk fun X c F σ H hh Q q => h.run X c F σ H hh Q fun F' H' v e1 h1 d1 => q F' H' v e1 h1 (k F' v d1)
theorem e_eq {d' : D} (h : E G C e Γ O d) (k : d = d') : E G C e Γ O d' := k ▸ h
theorem freeze_lst {F : Hp} {p : Addr} {ds : List D} {H : Hp} (h : HoldO F ((p, oLst ds) :: O) H) : ∃ F', Gw F F' ∧ HoldO F' O H ∧ (dLst G.K ds).ok F' (.ref p) := by
  obtain ⟨o, _, ⟨vs, rfl, ha⟩, e, hh⟩ := h.freeze
  exact ⟨_, e, hh, p, vs, rfl, .inl (Rd.of upd_same), AllD.mono e ha⟩
theorem en_lst (h : EN G C e Γ O (oLst ds)) : E G C e Γ O (dLst G.K ds) := .mk fun X c F σ H hh Q q => h.run X c F σ H hh Q fun F' H' p e1 h1 => by
  obtain ⟨F2, e2, h2, d2⟩ := freeze_lst (G := G) h1.ho
  exact q F2 H' _ (e1.trans e2) ⟨h1.fr.mono e2, h2⟩ d2
theorem a_nil : A G C [] Γ O [] := ⟨fun _ => rfl, fun X c F σ H hh Q q => wa_of pa_nil (q F H [] (Gw.refl F) hh trivial)⟩
theorem a_cons (h : E G C e Γ O d) (hr : A G C es Γ O ds) (hs : ∀ env, starEach (e :: es) env = (false, eval e env) :: starEach es env) : A G C (e :: es) Γ O (d :: ds) :=
  ⟨fun env => by rw [hs, List.any_cons, hr.st]; rfl, fun X c F σ H hh Q q => by
    refine wa_of (pa_cons pe_can pa_can (hs X.env)) (h.run X c F σ H hh _ fun F1 H1 v e1 h1 d1 => ?_)
    exact hr.run X c F1 σ H1 h1 _ fun F2 H2 vs e2 h2 d2 => q F2 H2 _ (e1.trans e2) h2 ⟨d.mono e2 d1, d2⟩⟩
theorem A.bt (h : A G C es Γ O ds) (pos : Pos) (env : Env) : (backTo pos (starEach es env)).any (·.1) = false := by
  unfold backTo
  rw [List.any_map]
  exact h.st env
theorem e_tup {k : Nat} (h : A G C es Γ O ds) (hl : ds.length ≤ 100000) : E G C (.Tuple es k pos) Γ O (dTup G.K ds) := .mk fun X c F σ H hh Q q => by
  refine we_of (pe_tup pa_can) (h.run X c F σ H hh _ fun F1 H1 vs e1 h1 d1 => ⟨?_, fun p hp => ?_⟩)
  · rw [AllD.length d1]; exact Nat.le_trans hl (by decide)
  · obtain ⟨h2, e2⟩ := h1.ho.laid (o := .tup vs) hp
    exact q _ _ _ (e1.trans e2) (h1.mono e2 h2) ⟨p, vs, rfl, .inl (.inl upd_same), AllD.mono e2 d1⟩
theorem en_list (h : A G C es Γ O ds) (hl : ds.length ≤ 100000) : EN G C (.List es pos) Γ O (oLst ds) := .mk fun X c F σ H hh Q q => by
  refine we_of (pe_lst pa_can) (h.run X c F σ H hh _ fun F1 H1 vs e1 h1 d1 => ⟨?_, fun p hp => ?_⟩)
  · rw [AllD.length d1]; exact Nat.le_trans hl (by decide)
  · exact q F1 _ p e1 ⟨h1.fr, h1.ho.own hp ⟨vs, rfl, d1⟩⟩
theorem e_op {op : Operator} {r : R2} (ho : ∀ X, InC G C X → OpR X (binaryOp op) r) (hr : R2D r O da db d) (ha : E G C a Γ O da) (hb : E G C b Γ O db) : E G C (.BinOp a op b pos) Γ O d := .mk fun X c F σ H hh Q q => by
  refine we_of (pe_op (ho X c) pe_can pe_can) (ha.run X c F σ H hh _ fun F1 H1 v e1 h1 d1 => ?_)
  refine hb.run X c F1 σ H1 h1 _ fun F2 H2 u e2 h2 d2 => ?_
  exact hr F2 H2 v u h2.ho (da.mono e2 d1) d2 _ fun F3 H3 z e3 h3 d3 => q F3 H3 z ((e1.trans e2).trans e3) (h2.mono e3 h3) d3
theorem e_un {op : UnaryOp} {r : V → Hp → VK → Prop} (ho : ∀ X, InC G C X → UnR X (unaryOp op) r) (hr : ∀ F H v, HoldO F O H → da.ok F v → ∀ Q : VK, (∀ z, d.ok F z → Q z H) → r v H Q) (ha : E G C a Γ O da) : E G C (.UnaryOp op a pos) Γ O d := .mk fun X c F σ H hh Q q => by
  refine we_of (pe_un (ho X c) pe_can) (ha.run X c F σ H hh _ fun F1 H1 v e1 h1 d1 => ?_)
  exact hr F1 H1 v h1.ho d1 _ fun z dz => q F1 H1 z e1 h1 dz
theorem r2_I0 {g : Int → Int → V} {i j : Int} : R2D (rI0 g) O (dI i) (dI j) (dV (g i j)) := fun F H v u hh h1 h2 Q q => ⟨i, j, h1, h2, q F H _ (Gw.refl F) hh rfl⟩
theorem r2_I {P : Int → Int → Prop} {g : Int → Int → V} {i j : Int} (hp : P i j) : R2D (rI P g) O (dI i) (dI j) (dV (g i j)) := fun F H v u hh h1 h2 Q q => ⟨i, j, h1, h2, hp, q F H _ (Gw.refl F) hh rfl⟩
theorem e_add {i j : Int} (ha : E G C a Γ O (dI i)) (hb : E G C b Γ O (dI j)) : E G C (.BinOp a .Add b pos) Γ O (dI (i + j)) := e_op (fun _ _ => op_add) r2_I0 ha hb
theorem e_sub {i j : Int} (ha : E G C a Γ O (dI i)) (hb : E G C b Γ O (dI j)) : E G C (.BinOp a .Sub b pos) Γ O (dI (i - j)) := e_op (fun _ _ => op_sub) r2_I0 ha hb
theorem e_mul {i j : Int} (ha : E G C a Γ O (dI i)) (hb : E G C b Γ O (dI j)) (hm : CMul i j) : E G C (.BinOp a .Mult b pos) Γ O (dI (i * j)) := e_op (fun _ _ => op_mul) (r2_I hm) ha hb
theorem e_mod {i j : Int} (ha : E G C a Γ O (dI i)) (hb : E G C b Γ O (dI j)) (hm : 0 < j) : E G C (.BinOp a .Mod b pos) Γ O (dI (i % j)) := e_op (fun _ _ => op_mod) (r2_I hm) ha hb
theorem e_div {i j : Int} (ha : E G C a Γ O (dI i)) (hb : E G C b Γ O (dI j)) (hm : CDiv i j) : E G C (.BinOp a .FloorDiv b pos) Γ O (dI (i / j)) := e_op (fun _ _ => op_fdiv) (r2_I hm) ha hb
theorem e_pow {i j : Int} (ha : E G C a Γ O (dI i)) (hb : E G C b Γ O (dI j)) (hm : CPow i j) : E G C (.BinOp a .Pow b pos) Γ O (dI (i ^ j.toNat)) := e_op (fun _ _ => op_pow) (r2_I hm) ha hb
theorem e_neg {i : Int} (ha : E G C a Γ O (dI i)) : E G C (.UnaryOp .USub a pos) Γ O (dI (-i)) := e_un (fun _ _ => un_neg) (fun F H v _ h Q q => ⟨i, h, q _ rfl⟩) ha
theorem e_addS {i j : Str} (ha : E G C a Γ O (dS i)) (hb : E G C b Γ O (dS j)) (hl : i.length + j.length ≤ sizeLine) : E G C (.BinOp a .Add b pos) Γ O (dS (i ++ j)) :=
  e_op (da := dS i) (db := dS j) (fun _ _ => op_add_str) (fun F H v u hh h1 h2 Q q => ⟨i, j, h1.1, h2.1, hl, q F H _ (Gw.refl F) hh ⟨rfl, okS_app h1.2 h2.2 hl⟩⟩) ha hb
structure CmpR (G : Cfg) (C : Sc) (op : CmpOp) (O : Own) (da db : D) (k : Bool) : Prop where
  ex : ∀ X, InC G C X → ∃ r, OpR X (compareOp op) r ∧ R2D r O da db (dB k)
theorem cmp_of {op : CmpOp} {r : R2} {k : Bool} (ho : ∀ X, InC G C X → OpR X (compareOp op) r) (hr : R2D r O da db (dB k)) : CmpR G C op O da db k := ⟨fun X c => ⟨r, ho X c, hr⟩⟩
theorem e_cmp {op : CmpOp} {k : Bool} (r : CmpR G C op O da db k) (ha : E G C a Γ O da) (hb : E G C b Γ O db) (hm : behindInMarks op b = false) : E G C (.Compare a [op] [b] pos) Γ O (dB k) := .mk fun X c F σ H hh Q q => by
  obtain ⟨r, ho, hr⟩ := r.ex X c
  refine we_of (pe_cmpR ho pe_can pe_can hm) (ha.run X c F σ H hh _ fun F1 H1 v e1 h1 d1 => ?_)
  refine hb.run X c F1 σ H1 h1 _ fun F2 H2 u e2 h2 d2 => ?_
  exact hr F2 H2 v u h2.ho (da.mono e2 d1) d2 _ fun F3 H3 z e3 h3 d3 => q F3 H3 z ((e1.trans e2).trans e3) (h2.mono e3 h3) d3
theorem t_cmp {op : CmpOp} {k : Bool} (r : CmpR G C op O da db k) (ha : E G C a Γ O da) (hb : E G C b Γ O db) (hm : behindInMarks op b = false) : T G C (.Compare a [op] [b] pos) Γ O k := .mk fun X c F σ H hh Q q => by
  obtain ⟨r, ho, hr⟩ := r.ex X c
  refine wt_of (pt_cmpR ho pe_can pe_can hm) (ha.run X c F σ H hh _ fun F1 H1 v e1 h1 d1 => ?_)
  refine hb.run X c F1 σ H1 h1 _ fun F2 H2 u e2 h2 d2 => ?_
  exact hr F2 H2 v u h2.ho (da.mono e2 d1) d2 _ fun F3 H3 z e3 h3 d3 => ⟨k, d3, q F3 H3 ((e1.trans e2).trans e3) (h2.mono e3 h3)⟩
theorem e_chain {op op' : CmpOp} {k k' : Bool} (r : CmpR G C op O da db k) (r' : k = true → CmpR G C op' O db dc k') (ha : E G C a Γ O da) (hb : E G C b Γ O db) (hc : k = true → E G C c Γ O dc)
    (hx : ∀ X {r1 r2 : R2} {ta tb tc : TE}, OpR X (compareOp op) r1 → OpR X (compareOp op') r2 → PE X a ta → PE X b tb → PE X c tc → PE X (.Compare a [op, op'] [b, c] pos) (tChain r1 r2 ta tb tc)) : E G C (.Compare a [op, op'] [b, c] pos) Γ O (dB (k && k')) := .mk fun X c0 F σ H hh Q q => by
  obtain ⟨r, ho, hr⟩ := r.ex X c0
  cases k with
  | false =>
    refine we_of (hx X (r2 := fun _ _ _ _ => False) ho (fun _ _ _ _ _ _ _ _ _ _ _ _ h => h.elim) pe_can pe_can pe_can) (ha.run X c0 F σ H hh _ fun F1 H1 v e1 h1 d1 => ?_)
    refine hb.run X c0 F1 σ H1 h1 _ fun F2 H2 u e2 h2 d2 => ?_
    exact hr F2 H2 v u h2.ho (da.mono e2 d1) d2 _ fun F3 H3 z e3 h3 d3 => ⟨false, d3, iteF (q F3 H3 _ ((e1.trans e2).trans e3) (h2.mono e3 h3) rfl)⟩
  | true =>
    obtain ⟨r2, ho2, hr2⟩ := (r' rfl).ex X c0
    refine we_of (hx X ho ho2 pe_can pe_can pe_can) (ha.run X c0 F σ H hh _ fun F1 H1 v e1 h1 d1 => ?_)
    refine hb.run X c0 F1 σ H1 h1 _ fun F2 H2 u e2 h2 d2 => ?_
    exact hr F2 H2 v u h2.ho (da.mono e2 d1) d2 _ fun F3 H3 z e3 h3 d3 => ⟨true, d3, iteT ((hc rfl).run X c0 F3 σ H3 (h2.mono e3 h3) _ fun F4 H4 y e4 h4 d4 =>
      hr2 F4 H4 u y h4.ho (db.mono (e3.trans e4) d2) d4 _ fun F5 H5 z e5 h5 d5 => q F5 H5 z ((((e1.trans e2).trans e3).trans e4).trans e5) (h4.mono e5 h5) d5)⟩
theorem t_chain {op op' : CmpOp} {k k' : Bool} (r : CmpR G C op O da db k) (r' : k = true → CmpR G C op' O db dc k') (ha : E G C a Γ O da) (hb : E G C b Γ O db) (hc : k = true → E G C c Γ O dc)
    (hx : ∀ X {r1 r2 : R2} {ta tb tc : TE}, OpR X (compareOp op) r1 → OpR X (compareOp op') r2 → PE X a ta → PE X b tb → PE X c tc → PT X (.Compare a [op, op'] [b, c] pos) (tTest (tChain r1 r2 ta tb tc))) : T G C (.Compare a [op, op'] [b, c] pos) Γ O (k && k') := .mk fun X c0 F σ H hh Q q => by
  obtain ⟨r, ho, hr⟩ := r.ex X c0
  cases k with
  | false =>
    refine wt_of (hx X (r2 := fun _ _ _ _ => False) ho (fun _ _ _ _ _ _ _ _ _ _ _ _ h => h.elim) pe_can pe_can pe_can) (ha.run X c0 F σ H hh _ fun F1 H1 v e1 h1 d1 => ?_)
    refine hb.run X c0 F1 σ H1 h1 _ fun F2 H2 u e2 h2 d2 => ?_
    exact hr F2 H2 v u h2.ho (da.mono e2 d1) d2 _ fun F3 H3 z e3 h3 d3 => ⟨false, d3, iteF ⟨false, rfl, q F3 H3 ((e1.trans e2).trans e3) (h2.mono e3 h3)⟩⟩
  | true =>
    obtain ⟨r2, ho2, hr2⟩ := (r' rfl).ex X c0
    refine wt_of (hx X ho ho2 pe_can pe_can pe_can) (ha.run X c0 F σ H hh _ fun F1 H1 v e1 h1 d1 => ?_)
    refine hb.run X c0 F1 σ H1 h1 _ fun F2 H2 u e2 h2 d2 => ?_
    exact hr F2 H2 v u h2.ho (da.mono e2 d1) d2 _ fun F3 H3 z e3 h3 d3 => ⟨true, d3, iteT ((hc rfl).run X c0 F3 σ H3 (h2.mono e3 h3) _ fun F4 H4 y e4 h4 d4 =>
      hr2 F4 H4 u y h4.ho (db.mono (e3.trans e4) d2) d4 _ fun F5 H5 z e5 h5 d5 => ⟨k', d5, q F5 H5 ((((e1.trans e2).trans e3).trans e4).trans e5) (h4.mono e5 h5)⟩)⟩
theorem c_lt {i j : Int} : CmpR G C .Lt O (dI i) (dI j) (decide (i < j)) := cmp_of (fun _ _ => op_lt) r2_I0
theorem c_le {i j : Int} : CmpR G C .LtE O (dI i) (dI j) (decide (i ≤ j)) := cmp_of (fun _ _ => op_le) r2_I0
theorem c_gt {i j : Int} : CmpR G C .Gt O (dI i) (dI j) (decide (j < i)) := cmp_of (fun _ _ => op_gt) r2_I0
theorem c_ge {i j : Int} : CmpR G C .GtE O (dI i) (dI j) (decide (j ≤ i)) := cmp_of (fun _ _ => op_ge) r2_I0
theorem c_eqV {v u : V} (h : scal v u = true) : CmpR G C .Eq O (dV v) (dV u) (decide (v = u)) := cmp_of (fun _ _ => op_eq) fun F H x y hh h1 h2 Q q => by
  cases h1; cases h2
  exact ⟨h, q F H _ (Gw.refl F) hh rfl⟩
theorem c_neV {v u : V} (h : scal v u = true) : CmpR G C .NotEq O (dV v) (dV u) (!decide (v = u)) := cmp_of (fun _ _ => op_ne) fun F H x y hh h1 h2 Q q => by
  cases h1; cases h2
  exact ⟨h, q F H _ (Gw.refl F) hh rfl⟩
theorem dec_iff {p q : Prop} [Decidable p] [Decidable q] (h : p ↔ q) : decide p = decide q := by
  by_cases hp : p
  · rw [decide_eq_true hp, decide_eq_true (h.mp hp)]
  · rw [decide_eq_false hp, decide_eq_false fun z => hp (h.mpr z)]
theorem c_is {op : CmpOp} {k k' : Bool} (h : CmpR G C op O da db k) (e : k = k') : CmpR G C op O da db k' := e ▸ h
theorem c_weak {op : CmpOp} {k : Bool} {da' db' : D} (h : CmpR G C op O da db k) (ha : ∀ F v, da'.ok F v → da.ok F v) (hb : ∀ F v, db'.ok F v → db.ok F v) : CmpR G C op O da' db' k := ⟨fun X c => by
  obtain ⟨r, ho, hr⟩ := h.ex X c
  exact ⟨r, ho, fun F H v u hh h1 h2 Q q => hr F H v u hh (ha F v h1) (hb F u h2) Q q⟩⟩
theorem c_eqI {i j : Int} : CmpR G C .Eq O (dI i) (dI j) (decide (i = j)) := c_is (c_eqV rfl) (dec_iff ⟨fun h => V.int.inj h, fun h => by rw [h]⟩)
theorem c_neI {i j : Int} : CmpR G C .NotEq O (dI i) (dI j) (!decide (i = j)) := c_is (c_neV rfl) (by rw [dec_iff ⟨fun h => V.int.inj h, fun h => by rw [h]⟩])
theorem c_eqS {i j : Str} : CmpR G C .Eq O (dS i) (dS j) (decide (i = j)) := c_weak (da := dV (.str i)) (db := dV (.str j)) (c_is (c_eqV rfl) (dec_iff ⟨fun h => V.str.inj h, fun h => by rw [h]⟩)) (fun _ _ h => h.1) (fun _ _ h => h.1)
theorem c_neS {i j : Str} : CmpR G C .NotEq O (dS i) (dS j) (!decide (i = j)) := c_weak (da := dV (.str i)) (db := dV (.str j)) (c_is (c_neV rfl) (by rw [dec_iff ⟨fun h => V.str.inj h, fun h => by rw [h]⟩])) (fun _ _ h => h.1) (fun _ _ h => h.1)
theorem t_val {k : Bool} (h : E G C e Γ O (dB k)) (he : ∀ (env : Env) whole, isTrue e env whole = (do let v ← whole; standAt e.pos; holding [v] (truthy v))) : T G C e Γ O k := .mk fun X c F σ H hh Q q =>
  wt_of (pt_val pe_can (he X.env)) (h.run X c F σ H hh _ fun F1 H1 v e1 h1 d1 => ⟨k, d1, q F1 H1 e1 h1⟩)
theorem t_not {k : Bool} (h : T G C a Γ O k) : T G C (.UnaryOp .Not a pos) Γ O (!k) := .mk fun X c F σ H hh Q q => wt_of (pt_not pt_can) (h.run X c F σ H hh _ fun F1 H1 e1 h1 => q F1 H1 e1 h1)
theorem t_w {k : Bool} (h : TW G C e Γ O k) : T G C e Γ O k := .mk fun X c F σ H hh Q q => wt_of (PW.pt pw_can) (h.run X c F σ H hh Q q)
theorem w_and1 {k : Bool} (h : T G C a Γ O k) : TW G C (.BoolOp .And [a] pos) Γ O k := .mk fun X c F σ H hh Q q => ww_of (pw_and1 pt_can) (h.run X c F σ H hh Q q)
theorem w_or1 {k : Bool} (h : T G C a Γ O k) : TW G C (.BoolOp .Or [a] pos) Γ O k := .mk fun X c F σ H hh Q q => ww_of (pw_or1 pt_can) (h.run X c F σ H hh Q q)
theorem w_and {k k' : Bool} (h : T G C a Γ O k) (h2 : k = true → TW G C (.BoolOp .And (b :: es) pos) Γ O k') : TW G C (.BoolOp .And (a :: b :: es) pos) Γ O (k && k') := .mk fun X c F σ H hh Q q =>
  ww_of (pw_and pt_can pw_can) (h.run X c F σ H hh _ fun F1 H1 e1 h1 => by
    cases k with
    | true => exact iteT ((h2 rfl).run X c F1 σ H1 h1 _ fun F2 H2 e2 h3 => q F2 H2 (e1.trans e2) h3)
    | false => exact iteF (q F1 H1 e1 h1))
theorem w_or {k k' : Bool} (h : T G C a Γ O k) (h2 : k = false → TW G C (.BoolOp .Or (b :: es) pos) Γ O k') : TW G C (.BoolOp .Or (a :: b :: es) pos) Γ O (k || k') := .mk fun X c F σ H hh Q q =>
  ww_of (pw_or pt_can pw_can) (h.run X c F σ H hh _ fun F1 H1 e1 h1 => by
    cases k with
    | false => exact iteF ((h2 rfl).run X c F1 σ H1 h1 _ fun F2 H2 e2 h3 => q F2 H2 (e1.trans e2) h3)
    | true => exact iteT (q F1 H1 e1 h1))
theorem e_bool1 {op : BoolOp} {d : D} (h : E G C a Γ O d) : E G C (.BoolOp op [a] pos) Γ O d := .mk fun X c F σ H hh Q q => we_of (pe_one pe_can) (h.run X c F σ H hh Q q)
theorem e_and {k k' : Bool} (h : E G C a Γ O (dB k)) (h2 : k = true → E G C (.BoolOp .And (b :: es) pos) Γ O (dB k')) : E G C (.BoolOp .And (a :: b :: es) pos) Γ O (dB (k && k')) := .mk fun X c F σ H hh Q q =>
  we_of (pe_and pe_can pe_can) (h.run X c F σ H hh _ fun F1 H1 v e1 h1 d1 => ⟨k, d1, by
    cases k with
    | true => exact iteT ((h2 rfl).run X c F1 σ H1 h1 _ fun F2 H2 u e2 h3 d3 => q F2 H2 u (e1.trans e2) h3 d3)
    | false => exact iteF (q F1 H1 _ e1 h1 rfl)⟩)
theorem e_or {k k' : Bool} (h : E G C a Γ O (dB k)) (h2 : k = false → E G C (.BoolOp .Or (b :: es) pos) Γ O (dB k')) : E G C (.BoolOp .Or (a :: b :: es) pos) Γ O (dB (k || k')) := .mk fun X c F σ H hh Q q =>
  we_of (pe_or pe_can pe_can) (h.run X c F σ H hh _ fun F1 H1 v e1 h1 d1 => ⟨k, d1, by
    cases k with
    | false => exact iteF ((h2 rfl).run X c F1 σ H1 h1 _ fun F2 H2 u e2 h3 d3 => q F2 H2 u (e1.trans e2) h3 d3)
    | true => exact iteT (q F1 H1 _ e1 h1 rfl)⟩)
theorem e_not {k : Bool} (h : E G C a Γ O (dB k)) : E G C (.UnaryOp .Not a pos) Γ O (dB (!k)) := .mk fun X c F σ H hh Q q =>
  we_of (pe_not pe_can) (h.run X c F σ H hh _ fun F1 H1 v e1 h1 d1 => ⟨k, d1, q F1 H1 _ e1 h1 rfl⟩)
end
end Kn
namespace Kn
open PySem PySem.Spec L2
abbrev Exn := Str × List (Str × V)
inductive Out (S R : Type) where
  | nx (s : S)
  | rt (r : R)
  | ex (x : Exn)
structure SD where
  ok : Hp → L2.St → Hp → Prop
  anti : ∀ {F F' : Hp} {σ : L2.St} {H : Hp}, Gw F F' → ok F' σ H → ok F σ H
structure RK where
  ok : Hp → V → Hp → Prop
  anti : ∀ {F F' : Hp} {v : V} {H : Hp}, Gw F F' → ok F' v H → ok F v H
  xo : Hp → Value → Option Addr → Hp → Prop
  xanti : ∀ {F F' : Hp} {c : Value} {d : Option Addr} {H : Hp}, Gw F F' → xo F' c d H → xo F c d H
abbrev noXo : Hp → Value → Option Addr → Hp → Prop := fun _ _ _ _ => False
abbrev RK.NoX (rk : RK) : Prop := ∀ F c d H, ¬ rk.xo F c d H
structure XD where
  ok : Hp → Value → Option Addr → L2.St → Hp → Prop
  anti : ∀ {F F' : Hp} {c : Value} {d : Option Addr} {σ : L2.St} {H : Hp}, Gw F F' → ok F' c d σ H → ok F c d σ H
def SD.of (Γ : Fr) (O : Own) : SD := ⟨fun F σ H => ∃ F', Gw F F' ∧ Hold F' Γ O σ H, fun e ⟨F', e2, h⟩ => ⟨F', e.trans e2, h⟩⟩
def RK.val (d : D) (O : Own) : RK := ⟨fun F v H => ∃ F', Gw F F' ∧ HoldO F' O H ∧ d.ok F' v, fun e ⟨F', e2, h⟩ => ⟨F', e.trans e2, h⟩, noXo, fun _ z => z⟩
def RK.new (od : OD) (O : Own) : RK := ⟨fun F v H => ∃ F' p, Gw F F' ∧ v = .ref p ∧ HoldO F' ((p, od) :: O) H, fun e ⟨F', p, e2, h⟩ => ⟨F', p, e.trans e2, h⟩, noXo, fun _ z => z⟩
def XD.no : XD := ⟨fun _ _ _ _ _ => False, fun _ h => h⟩
structure Ek (S R : Type) where
  fs : S → SD
  rs : R → RK
  xs : Exn → XD
abbrev Ek.to {S R S' : Type} (k : Ek S R) (fs : S' → SD) : Ek S' R := ⟨fs, k.rs, k.xs⟩
def meet {S R : Type} (k : Ek S R) (F : Hp) (D : Ends) (W : WX) : Out S R → Prop
  | .nx s => ∀ σ H, (k.fs s).ok F σ H → D.nx σ H
  | .rt r => (∀ v H, (k.rs r).ok F v H → D.rt v H) ∧ ∀ c d σ H, (k.rs r).xo F c d H → W c d σ H
  | .ex x => ∀ c d σ H, (k.xs x).ok F c d σ H → W c d σ H
theorem meet.mono {S R : Type} {k : Ek S R} {F F' : Hp} {D : Ends} {W : WX} (e : Gw F F') : ∀ {o : Out S R}, meet k F D W o → meet k F' D W o
  | .nx s, h => fun σ H q => h σ H ((k.fs s).anti e q)
  | .rt r, h => ⟨fun v H q => h.1 v H ((k.rs r).anti e q), fun c d σ H q => h.2 c d σ H ((k.rs r).xanti e q)⟩
  | .ex x, h => fun c d σ H q => h c d σ H ((k.xs x).anti e q)
def WS (X : Cx) (st : Stmt) : TS := fun D σ H => ∀ (pins : List (Addr × Obj)) (s : Shared), Inv X pins σ H s → wpAny (model X.prog X.w) X.A (exec st X.env) (SP X pins D) X.xe s
def WSs (X : Cx) (ss : List Stmt) : TS := fun D σ H => ∀ (pins : List (Addr × Obj)) (s : Shared), Inv X pins σ H s → wpAny (model X.prog X.w) X.A (execs ss X.env) (SP X pins D) X.xe s
theorem ps_can {X : Cx} {st : Stmt} : PS X st (WS X st) := ⟨fun pins s _ _ _ I h => h pins s I⟩
theorem pss_can {X : Cx} {ss : List Stmt} : PSs X ss (WSs X ss) := ⟨fun pins s _ _ _ I h => h pins s I⟩
theorem wss_of {X : Cx} {ss : List Stmt} {t : TS} {D : Ends} {σ : L2.St} {H : Hp} (h : PSs X ss t) (q : t D σ H) : WSs X ss D σ H := fun pins s I => h.run pins s σ H D I q
structure SS (G : Cfg) (C : Sc) (ss : List Stmt) (Γ : Fr) (O : Own) {S R : Type} (k : Ek S R) (o : Out S R) : Prop where
  run : ∀ X, InC G C X → ∀ W, Takes X W → ∀ (F : Hp) (σ : L2.St) (H : Hp), Hold F Γ O σ H → ∀ D, meet k F D W o → WSs X ss D σ H
def lt {α β : Type} (a : α) (f : α → β) : β := f a
section
variable {G : Cfg} {C : Sc} {Γ Γ' : Fr} {O O' : Own} {S S1 R B : Type} {k : Ek S R} {o : Out S R} {e c : Expr} {d : D} {ss ta tb : List Stmt} {st : Stmt} {pos p1 p2 : Pos} {x : Str}
theorem ss_cons {t : Cx → TS} (hp : ∀ X, InC G C X → PS X st (t X)) (h : ∀ X, InC G C X → ∀ W, Takes X W → ∀ (F : Hp) (σ : L2.St) (H : Hp), Hold F Γ O σ H → ∀ D, meet k F D W o → t X { D with nx := WSs X ss D } σ H) : SS G C (st :: ss) Γ O k o := .mk fun X c W tk F σ H hh D m =>
  wss_of (pss_cons (hp X c) pss_can) (h X c W tk F σ H hh D m)
def FrLe : Fr → Fr → Prop
  | [], [] => True
  | a :: Γ, b :: Γ' => (b = none ∨ b = a) ∧ FrLe Γ Γ'
  | _, _ => False
theorem FrLe.at : ∀ {Γ Γ' : Fr} {i : Nat} {d : D}, FrLe Γ Γ' → Γ'[i]? = some (some d) → Γ[i]? = some (some d)
  | [], [], _, _, _, e => by simp at e
  | a :: Γ, b :: Γ', 0, d, h, e => by
    simp at e
    subst e
    rcases h.1 with h | h
    · cases h
    · rw [← h]; rfl
  | a :: Γ, b :: Γ', i + 1, d, h, e => by
    simp at e ⊢
    exact FrLe.at h.2 e
  | [], _ :: _, _, _, h, _ => h.elim
  | _ :: _, [], _, _, h, _ => h.elim
theorem FrLe.len : ∀ {Γ Γ' : Fr}, FrLe Γ Γ' → Γ'.length = Γ.length
  | [], [], _ => rfl
  | _ :: _, _ :: _, h => by simp [FrLe.len h.2]
  | [], _ :: _, h => h.elim
  | _ :: _, [], h => h.elim
theorem FrOk.le {F : Hp} {σ : L2.St} (h : FrOk F Γ σ) (l : FrLe Γ Γ') : FrOk F Γ' σ := ⟨by rw [l.len]; exact h.1, fun i d e => h.2 i d (l.at e)⟩
theorem FrLe.refl : ∀ {Γ : Fr}, FrLe Γ Γ
  | [] => trivial
  | _ :: _ => ⟨.inr rfl, FrLe.refl⟩
theorem ss_nil {s : S} (h : ∀ F σ H, Hold F Γ O σ H → (k.fs s).ok F σ H) : SS G C [] Γ O k (.nx s) := .mk fun X c W tk F σ H hh D m => wss_of pss_nil (m σ H (h F σ H hh))
theorem ss_end {s : S1} {fs : S1 → SD} {S2 : Type} {k2 : Ek S2 R} (h : ∀ F σ H, Hold F Γ O σ H → (fs s).ok F σ H) : SS G C [] Γ O (k2.to fs) (.nx s) := ss_nil h
theorem hold_end (l : FrLe Γ Γ') : ∀ F σ H, Hold F Γ O σ H → (SD.of Γ' O).ok F σ H := fun F σ H hh => ⟨F, Gw.refl F, hh.fr.le l, hh.ho⟩
theorem ss_ret {r : R} (h : E G C e Γ O d) (hr : ∀ F v H, (RK.val d O).ok F v H → (k.rs r).ok F v H) : SS G C (.Return (some e) pos :: ss) Γ O k (.rt r) :=
  ss_cons (t := fun X => tRet (WE X e)) (fun _ _ => ps_ret pe_can) fun X c W tk F σ H hh D m => h.run X c F σ H hh _ fun F1 H1 v e1 h1 d1 => m.1 v H1 (hr F v H1 ⟨F1, e1, h1.ho, d1⟩)
theorem ss_retN {od : OD} {r : R} (h : EN G C e Γ O od) (hr : ∀ F v H, (RK.new od O).ok F v H → (k.rs r).ok F v H) : SS G C (.Return (some e) pos :: ss) Γ O k (.rt r) :=
  ss_cons (t := fun X => tRet (WE X e)) (fun _ _ => ps_ret pe_can) fun X c W tk F σ H hh D m => h.run X c F σ H hh _ fun F1 H1 p e1 h1 => m.1 _ H1 (hr F _ H1 ⟨F1, p, e1, rfl, h1.ho⟩)
structure Loca (C : Sc) (i : Nat) (x : Str) : Prop where
  n : C.N[i]? = some x
  nd : C.N.Nodup
  l : L2.Loc C.sc x
  f : C.top = true ∨ C.sc.names.lookup x = some .local
def locB (C : Sc) (i : Nat) (x : Str) : Bool := decide (C.N[i]? = some x) && decide C.N.Nodup && (match C.sc.names.lookup x with
  | some .local => true
  | some .cell => C.top
  | _ => false)
theorem loc_of {C : Sc} {i : Nat} {x : Str} (h : locB C i x = true) : Loca C i x := by
  unfold locB at h
  simp only [Bool.and_eq_true, decide_eq_true_eq] at h
  obtain ⟨⟨h1, h2⟩, h3⟩ := h
  refine ⟨h1, h2, ?_, ?_⟩
  · unfold L2.Loc
    revert h3
    cases C.sc.names.lookup x with
    | none => intro h; cases h
    | some k => cases k <;> intro h <;> first | exact .inl rfl | exact .inr rfl | cases h
  · revert h3
    cases C.sc.names.lookup x with
    | none => intro h; cases h
    | some k => cases k <;> intro h <;> first | exact .inr rfl | exact .inl h | cases h
theorem Loca.pg {X : Cx} {i : Nat} (l : Loca C i x) (c : InC G C X) : PG X (.Name x pos) (gName i) :=
  pg_name (by rw [c.n]; exact l.nd) (by rw [c.n]; exact l.n) (by rw [c.sc]; exact l.l) (by rcases l.f with h | h; exact .inl (c.fn h x); exact .inr (by rw [c.sc]; exact h))
theorem ss_asg {α : Type} {f : α → D} {a : α} {i : Nat} (ι : B → Out S R) {g : α → B} (l : Loca C i x) (hs : ∀ env, swapsWith e (some (.Name x p1)) pos.line env = pure false) (h : E G C e Γ O (f a)) (hr : ∀ y, y = a → SS G C ss (Γ.set i (some (f y))) O k (ι (g y))) : SS G C (.Assign [.Name x p1] e pos :: ss) Γ O k (ι (lt a g)) :=
  ss_cons (t := fun X => tAsg (WE X e) (gName i)) (fun X c => ps_set (by rw [c.n]; exact l.nd) (by rw [c.n]; exact l.n) (by rw [c.sc]; exact l.l) pe_can (hs X.env) (by rcases l.f with h | h; exact .inl (c.fn h x); exact .inr (by rw [c.sc]; exact h)))
    fun X c W tk F σ H hh D m => h.run X c F σ H hh _ fun F1 H1 v e1 h1 d1 => (hr a rfl).run X c W tk F1 _ H1 (h1.set i d1) D (meet.mono e1 m)
theorem ss_new {od : OD} {i : Nat} (l : Loca C i x) (hs : ∀ env, swapsWith e (some (.Name x p1)) pos.line env = pure false) (h : EN G C e Γ O od) (hr : ∀ p, SS G C ss (Γ.set i (some (dP p))) ((p, od) :: O) k o) : SS G C (.Assign [.Name x p1] e pos :: ss) Γ O k o :=
  ss_cons (t := fun X => tAsg (WE X e) (gName i)) (fun X c => ps_set (by rw [c.n]; exact l.nd) (by rw [c.n]; exact l.n) (by rw [c.sc]; exact l.l) pe_can (hs X.env) (by rcases l.f with h | h; exact .inl (c.fn h x); exact .inr (by rw [c.sc]; exact h)))
    fun X c W tk F σ H hh D m => h.run X c F σ H hh _ fun F1 H1 p e1 h1 => (hr p).run X c W tk F1 _ H1 (Hold.set i h1 rfl) D (meet.mono e1 m)
theorem ss_if {b : Bool} {r1 r2 : B} (ι : B → Out S R) (h : T G C c Γ O b) (h1 : b = true → SS G C ta Γ O k (ι r1)) (h2 : b = false → SS G C tb Γ O k (ι r2)) : SS G C [.If c ta tb pos] Γ O k (ι (if b then r1 else r2)) := .mk fun X c0 W tk F σ H hh D m =>
  wss_of (t := tIfS (WT X c) (WSs X ta) (WSs X tb)) (pss_one (ps_if pt_can pss_can pss_can)) (h.run X c0 F σ H hh _ fun F1 H1 e1 h3 => by
    cases b with
    | true => exact iteT ((h1 rfl).run X c0 W tk F1 σ H1 h3 D (meet.mono e1 m))
    | false => exact iteF ((h2 rfl).run X c0 W tk F1 σ H1 h3 D (meet.mono e1 m)))
theorem ss_when {b : Bool} {r1 r2 : B} (ι : B → Out S R) (h : T G C c Γ O b) (hn : ∀ s, ι r1 ≠ .nx s) (h1 : b = true → SS G C ta Γ O k (ι r1)) (h2 : b = false → SS G C ss Γ O k (ι r2)) : SS G C (.If c ta [] pos :: ss) Γ O k (ι (if b then r1 else r2)) := .mk fun X c0 W tk F σ H hh D m =>
  wss_of (t := tSeq (tIfS (WT X c) (WSs X ta) tNext) (WSs X ss)) (pss_cons (ps_if pt_can pss_can pss_nil) pss_can) (h.run X c0 F σ H hh _ fun F1 H1 e1 h3 => by
    cases b with
    | true =>
      refine iteT ((h1 rfl).run X c0 W tk F1 σ H1 h3 _ ?_)
      have m1 := meet.mono e1 m
      rw [if_pos rfl] at m1
      revert m1 hn
      generalize ι r1 = o1
      intro hn m1
      cases o1 with
      | nx s => exact absurd rfl (hn s)
      | rt r => exact m1
      | ex x => exact m1
    | false => exact iteF ((h2 rfl).run X c0 W tk F1 σ H1 h3 D (meet.mono e1 m)))
theorem ss_join {b : Bool} {s1 s2 : S1} {g : S1 → B} (Γ1 : S1 → Fr) (O1 : S1 → Own) (ι : B → Out S R) (h : T G C c Γ O b) (h1 : b = true → SS G C ta Γ O (k.to fun s => SD.of (Γ1 s) (O1 s)) (.nx s1)) (h2 : b = false → SS G C tb Γ O (k.to fun s => SD.of (Γ1 s) (O1 s)) (.nx s2))
    (hr : ∀ s, s = (if b then s1 else s2) → SS G C ss (Γ1 s) (O1 s) k (ι (g s))) : SS G C (.If c ta tb pos :: ss) Γ O k (ι (lt (if b then s1 else s2) g)) := .mk fun X c0 W tk F σ H hh D m =>
  wss_of (t := tSeq (tIfS (WT X c) (WSs X ta) (WSs X tb)) (WSs X ss)) (pss_cons (ps_if pt_can pss_can pss_can) pss_can) (h.run X c0 F σ H hh _ fun F1 H1 e1 h3 => by
    have fin : ∀ F', Gw F1 F' → ∀ σ' H', (SD.of (Γ1 (if b then s1 else s2)) (O1 (if b then s1 else s2))).ok F' σ' H' → WSs X ss D σ' H' := fun F' e' σ' H' ⟨F2, e2, h4⟩ => (hr _ rfl).run X c0 W tk F2 σ' H' h4 D (meet.mono ((e1.trans e').trans e2) m)
    cases b with
    | true => exact iteT ((h1 rfl).run X c0 W tk F1 σ H1 h3 _ fun σ' H' q => fin F1 (Gw.refl _) σ' H' q)
    | false => exact iteF ((h2 rfl).run X c0 W tk F1 σ H1 h3 _ fun σ' H' q => fin F1 (Gw.refl _) σ' H' q))
def Out.bind (o : Out S1 R) (g : S1 → Out S R) : Out S R := match o with
  | .nx s => g s
  | .rt r => .rt r
  | .ex x => .ex x
end
end Kn
namespace Kn
open PySem PySem.Spec L2
def WG (X : Cx) (tg : Expr) : TG := fun v σ H Q => ∀ (pins : List (Addr × Obj)) (s : Shared) (u : Value), Inv X pins σ H s → RelV v u → wpAny (model X.prog X.w) X.A (assign tg X.env u) (fun _ s' => ∃ σ' H', Inv X pins σ' H' s' ∧ Q σ' H') X.xe s
theorem pg_can {X : Cx} {tg : Expr} : PG X tg (WG X tg) := ⟨fun pins s _ _ _ u _ I r h => h pins s u I r⟩
def WGs (X : Cx) (ts : List Expr) : TGs := fun vs σ H Q => ∀ (pins : List (Addr × Obj)) (s : Shared) (us : List Value), Inv X pins σ H s → Vals vs us → wpAny (model X.prog X.w) X.A (assignInOrder ((assignEach ts X.env).map (·.2)) us) (fun _ s' => ∃ σ' H', Inv X pins σ' H' s' ∧ Q σ' H') X.xe s
theorem pgs_can {X : Cx} {ts : List Expr} : PGs X ts (WGs X ts) := ⟨fun pins s _ _ _ us _ I r h => h pins s us I r⟩
def But (is : List Nat) (σ σ' : L2.St) : Prop := σ'.length = σ.length ∧ ∀ j, j ∉ is → σ'[j]? = σ[j]?
theorem But.refl {is : List Nat} {σ : L2.St} : But is σ σ := ⟨rfl, fun _ _ => rfl⟩
theorem But.trans {is js : List Nat} {σ σ1 σ2 : L2.St} (a : But is σ σ1) (b : But js σ1 σ2) : But (is ++ js) σ σ2 := ⟨b.1.trans a.1, fun j h => (b.2 j fun z => h (List.mem_append_right _ z)).trans (a.2 j fun z => h (List.mem_append_left _ z))⟩
theorem But.set {i : Nat} {σ : L2.St} {v : Option V} : But [i] σ (σ.set i v) := ⟨List.length_set .., fun j h => List.getElem?_set_ne fun e => h (by rw [e]; exact List.mem_singleton.mpr rfl)⟩
structure TJ (G : Cfg) (C : Sc) (tg : Expr) (d : D) (Γ Γ' : Fr) (is : List Nat) : Prop where
  run : ∀ X, InC G C X → ∀ (F : Hp) (O : Own) (σ : L2.St) (H : Hp) (v : V), Hold F Γ O σ H → d.ok F v → ∀ Q : L2.St → Hp → Prop, (∀ σ', Hold F Γ' O σ' H → But is σ σ' → Q σ' H) → WG X tg v σ H Q
structure TJs (G : Cfg) (C : Sc) (ts : List Expr) (ds : List D) (Γ Γ' : Fr) (is : List Nat) : Prop where
  run : ∀ X, InC G C X → ∀ (F : Hp) (O : Own) (σ : L2.St) (H : Hp) (vs : List V), Hold F Γ O σ H → AllD F ds vs → ∀ Q : L2.St → Hp → Prop, (∀ σ', Hold F Γ' O σ' H → But is σ σ' → Q σ' H) → WGs X ts vs σ H Q
def forL {S α R : Type} (f : S → α → Out S R) : List α → S → Out S R
  | [], s => .nx s
  | x :: xs, s => match f s x with
    | .nx s' => forL f xs s'
    | .rt r => .rt r
    | .ex e => .ex e
theorem forL_snoc {S α R : Type} {f : S → α → Out S R} {x : α} {post : List α} : ∀ {pre : List α} {s0 s : S}, forL f pre s0 = .nx s → forL f (pre ++ x :: post) s0 = (match f s x with
    | .nx s' => forL f post s'
    | .rt r => .rt r
    | .ex e => .ex e)
  | [], s0, s, h => by cases h; rfl
  | y :: pre, s0, s, h => by
    have h1 : (match f s0 y with
      | .nx s' => forL f pre s'
      | .rt r => .rt r
      | .ex e => .ex e) = Out.nx s := h
    show (match f s0 y with
      | .nx s' => forL f (pre ++ x :: post) s'
      | .rt r => .rt r
      | .ex e => .ex e) = _
    cases e : f s0 y with
    | nx s' => rw [e] at h1; exact forL_snoc (pre := pre) h1
    | rt r => rw [e] at h1; cases h1
    | ex r => rw [e] at h1; cases h1
theorem forL_fold {S α R : Type} {h : S → α → S} : ∀ {xs : List α} {s0 : S}, forL (R := R) (fun s x => .nx (h s x)) xs s0 = .nx (xs.foldl h s0)
  | [], _ => rfl
  | _ :: xs, _ => forL_fold (xs := xs)
structure Feeds (P : Own → Prop) (J : It) (F0 : Hp) (ds : List D) : Prop where
  item : ∀ (i : Nat) (d : D), ds[i]? = some d → ∀ F O H, P O → Gw F0 F → HoldO F O H → J.go i H ∧ ∀ x H', J.yld i H x H' → ∃ F', Gw F F' ∧ HoldO F' O H' ∧ d.ok F' x
  stop : ∀ F O H, P O → Gw F0 F → HoldO F O H → J.stop ds.length H
theorem Feeds.mono {P : Own → Prop} {J : It} {F F' : Hp} {ds : List D} (h : Feeds P J F ds) (e : Gw F F') : Feeds P J F' ds := ⟨fun i d q F1 O H p e1 => h.item i d q F1 O H p (e.trans e1), fun F1 O H p e1 => h.stop F1 O H p (e.trans e1)⟩
def WI (X : Cx) (tg e : Expr) : TI := fun σ H R => ∀ (pins : List (Addr × Obj)) (s : Shared), Inv X pins σ H s → wpAny (model X.prog X.w) X.A (eval e X.env) (fun v s1 => wpAny (model X.prog X.w) X.A (pyIter v) (PIE X pins σ tg R) X.xe s1) X.xe s
theorem pi_can {X : Cx} {tg e : Expr} : PI X tg e (WI X tg e) := ⟨fun pins s _ _ _ I h => h pins s I⟩
theorem wi_of {X : Cx} {tg e : Expr} {t : TI} {σ : L2.St} {H : Hp} {R : It → Hp → Prop} (h : PI X tg e t) (q : t σ H R) : WI X tg e σ H R := fun pins s I => h.run pins s σ H R I q
structure EI (G : Cfg) (C : Sc) (tg e : Expr) (Γ : Fr) (O : Own) (P : Own → Prop) (ds : List D) : Prop where
  run : ∀ X, InC G C X → ∀ (F : Hp) (σ : L2.St) (H : Hp), Hold F Γ O σ H → ∀ R : It → Hp → Prop, (∀ J F' H', Gw F F' → Hold F' Γ O σ H' → Feeds P J F' ds → R J H') → WI X tg e σ H R
abbrev anyO : Own → Prop := fun _ => True
section
variable {G : Cfg} {C : Sc} {Γ Γ' : Fr} {O O' : Own} {S S1 R B α : Type} {k : Ek S R} {o : Out S R} {e c it tg : Expr} {d : D} {ds : List D} {ss body : List Stmt} {st : Stmt} {pos p1 p2 : Pos} {x : Str} {es : List Expr} {P : Own → Prop} {is : List Nat}
theorem tj_name {i : Nat} (l : Loca C i x) : TJ G C (.Name x pos) d Γ (Γ.set i (some d)) [i] := .mk fun X c F O σ H v hh hd Q q pins s u I r =>
  (l.pg c).run pins s σ H v u Q I r (q _ (hh.set i hd) But.set)
theorem tjs_nil : TJs G C [] [] Γ Γ [] := .mk fun X c F O σ H vs hh hd Q q pins s us I r => by
  cases vs with
  | nil => exact pgs_nil.run pins s σ H [] us Q I r ⟨rfl, q σ hh But.refl⟩
  | cons v vs => exact hd.elim
theorem tjs_cons {Γ2 : Fr} {is js : List Nat} (h : TJ G C e d Γ Γ' is) (hr : TJs G C es ds Γ' Γ2 js) (hs : ∀ env, (assignEach (e :: es) env).map (·.2) = assign e env :: (assignEach es env).map (·.2)) : TJs G C (e :: es) (d :: ds) Γ Γ2 (is ++ js) := .mk fun X c F O σ H vs hh hd Q q pins s us I r => by
  cases vs with
  | nil => exact hd.elim
  | cons v vs => exact (pgs_cons pg_can pgs_can (hs X.env)).run pins s σ H (v :: vs) us Q I r ⟨v, vs, rfl, h.run X c F O σ H v hh hd.1 _ fun σ1 h1 b1 => hr.run X c F O σ1 H vs h1 hd.2 Q fun σ2 h2 b2 => q σ2 h2 (b1.trans b2)⟩
theorem tj_tup [Calm C] {kk : Nat} {is : List Nat} (h : TJs G C es ds Γ Γ' is) (hn : ∀ env, (assignEach es env).length = ds.length) (hst : ∀ env, (assignEach es env).findIdx? (·.1) = none) : TJ G C (.Tuple es kk pos) (dTup G.K ds) Γ Γ' is := .mk fun X c F O σ H v hh hd Q q pins s u I r => by
  obtain ⟨a, vs, rfl, hs, ha⟩ := hd
  refine (pg_tup c.cm pgs_can (hn X.env) (hst X.env)).run pins s σ H _ u Q I r ⟨a, vs, rfl, by rw [c.K]; exact gw_t hh.ho.ex hs, AllD.length ha, ?_⟩
  exact h.run X c F O σ H vs hh ha Q q
theorem ss_for [Calm C] {df : α → D} {xs : List α} {f : S1 → α → Out S1 R} {s0 : S1} {g : S1 → Out S R} (Γ1 : S1 → Fr) (Γ2 : S1 → α → Fr) (O1 : S1 → Own) (hi : EI G C tg it Γ O P (xs.map df)) (l0 : FrLe Γ (Γ1 s0)) (o0 : O = O1 s0) (hP : ∀ s, P (O1 s))
    (hg : ∀ s x, TJ G C tg (df x) (Γ1 s) (Γ2 s x) is)
    (hb : ∀ s x pre post, xs = pre ++ x :: post → forL f pre s0 = .nx s → SS G C body (Γ2 s x) (O1 s) (k.to fun s => SD.of (Γ1 s) (O1 s)) (f s x))
    (hr : ∀ s, forL f xs s0 = .nx s → SS G C ss (Γ1 s) (O1 s) k (g s)) (hs : ∀ env x, foldedSetIterable it env x = pure x) : SS G C (.For tg it body [] pos :: ss) Γ O k ((forL f xs s0).bind g) :=
  ss_cons (t := fun X => tFor (WI X tg it) (WG X tg) (WSs X body)) (fun X c => ps_for c.po c.cm pi_can pg_can pss_can (hs X.env)) fun X c W tk F σ H hh D m => by
    refine hi.run X c F σ H hh _ fun J F1 H1 e1 h1 fd => ?_
    refine ⟨fun i mm σ' H' => ∃ s F', mm = xs.length - i ∧ i ≤ xs.length ∧ forL f (xs.take i) s0 = .nx s ∧ Gw F1 F' ∧ Hold F' (Γ1 s) (O1 s) σ' H', ⟨xs.length, s0, F1, rfl, Nat.zero_le _, rfl, Gw.refl _, h1.fr.le l0, o0 ▸ h1.ho⟩, ?_⟩
    rintro i mm σ' H' ⟨s, F', rfl, hil, hf, e2, h2⟩
    by_cases hlt : i < xs.length
    · refine .inr ⟨?_, ?_⟩
      · have hd : (xs.map df)[i]? = some (df xs[i]) := by rw [List.getElem?_map, List.getElem?_eq_getElem hlt]; rfl
        exact (fd.item i _ hd F' (O1 s) H' (hP s) e2 h2.ho).1
      · have hd : (xs.map df)[i]? = some (df xs[i]) := by rw [List.getElem?_map, List.getElem?_eq_getElem hlt]; rfl
        have hsplit : xs = xs.take i ++ xs[i] :: xs.drop (i + 1) := by
          have a := List.take_append_drop i xs
          rw [List.drop_eq_getElem_cons hlt] at a
          exact a.symm
        refine ⟨fun σ3 H3 => ∃ s3 F3, f s xs[i] = .nx s3 ∧ Gw F1 F3 ∧ Hold F3 (Γ1 s3) (O1 s3) σ3 H3, ?_, fun x H3 hy => ?_⟩
        · rintro σ3 H3 ⟨s3, F3, e3, x3, h3⟩
          refine ⟨xs.length - (i + 1), by omega, s3, F3, rfl, hlt, ?_, x3, h3⟩
          have a : xs.take (i + 1) = xs.take i ++ xs[i] :: [] := List.take_succ_eq_append_getElem hlt
          rw [a, forL_snoc hf, e3]
          rfl
        · obtain ⟨F3, e3, h3, d3⟩ := (fd.item i _ hd F' (O1 s) H' (hP s) e2 h2.ho).2 x H3 hy
          refine (hg s xs[i]).run X c F3 (O1 s) σ' H3 x ⟨h2.fr.mono e3, h3⟩ d3 _ fun σ4 h4 _ => ?_
          refine (hb s xs[i] (xs.take i) (xs.drop (i + 1)) hsplit hf).run X c W tk F3 σ4 H3 h4 _ ?_
          have me : forL f xs s0 = (match f s xs[i] with
            | .nx s' => forL f (xs.drop (i + 1)) s'
            | .rt r => .rt r
            | .ex e => .ex e) := by
            have a := forL_snoc (f := f) (x := xs[i]) (post := xs.drop (i + 1)) hf
            rw [← hsplit] at a
            exact a
          have m1 := meet.mono ((e1.trans e2).trans e3) m
          rw [me] at m1
          cases ef : f s xs[i] with
          | nx s' =>
            intro σ5 H5 q
            obtain ⟨F5, e5, h5⟩ := q
            exact ⟨s', F5, rfl, (e2.trans e3).trans e5, h5⟩
          | rt r =>
            rw [ef] at m1
            exact m1
          | ex r =>
            rw [ef] at m1
            exact m1
    · have hi' : i = xs.length := by omega
      subst hi'
      refine .inl ⟨?_, ?_⟩
      · have a := fd.stop F' (O1 s) H' (hP s) e2 h2.ho
        rw [List.length_map] at a
        exact a
      · rw [List.take_length] at hf
        refine (hr s hf).run X c W tk F' σ' H' h2 D ?_
        have m1 := meet.mono (e1.trans e2) m
        rw [hf] at m1
        exact m1
theorem ss_fold [Calm C] {df : α → D} {xs : List α} {f : S1 → α → S1} {s0 : S1} {g : S1 → B} (ι : B → Out S R) (Γ1 : S1 → Fr) (Γ2 : S1 → α → Fr) (O1 : S1 → Own) (hi : EI G C tg it Γ O P (xs.map df)) (l0 : FrLe Γ (Γ1 s0)) (o0 : O = O1 s0) (hP : ∀ s, P (O1 s))
    (hg : ∀ s x, TJ G C tg (df x) (Γ1 s) (Γ2 s x) is)
    (hb : ∀ s x pre post, xs = pre ++ x :: post → s = pre.foldl f s0 → SS G C body (Γ2 s x) (O1 s) (k.to fun s => SD.of (Γ1 s) (O1 s)) (.nx (f s x)))
    (hr : ∀ s, s = xs.foldl f s0 → SS G C ss (Γ1 s) (O1 s) k (ι (g s))) (hs : ∀ env x, foldedSetIterable it env x = pure x) : SS G C (.For tg it body [] pos :: ss) Γ O k (ι (lt (xs.foldl f s0) g)) := by
  have a := ss_for (ss := ss) (pos := pos) (k := k) (g := fun s => ι (g s)) (f := fun s x => .nx (f s x)) Γ1 Γ2 O1 hi l0 o0 hP hg (fun s x pre post e h => hb s x pre post e (by rw [forL_fold] at h; cases h; rfl)) (fun s h => hr s (by rw [forL_fold] at h; cases h; rfl)) hs
  rw [forL_fold] at a
  exact a
theorem ei_list (h : E G C it Γ O (dLst G.K ds)) : EI G C tg it Γ O anyO ds := .mk fun X c F σ H hh R q =>
  wi_of (pi_list pe_can) (h.run X c F σ H hh _ fun F1 H1 v e1 h1 d1 => by
    obtain ⟨a, vs, rfl, hs, ha⟩ := d1
    have hs' : ∀ {F' O' H'}, Gw F1 F' → HoldO F' O' H' → SqL X.K H' a vs := fun e h => by rw [c.K]; exact gw_l (e.trans h.ex) hs.sq
    refine ⟨a, rfl, ⟨vs, hs' (Gw.refl _) h1.ho⟩, q _ F1 H1 e1 h1 ⟨fun i d hd F O H _ e h => ?_, fun F O H _ e h => ?_⟩⟩
    · obtain ⟨v, hv, dv⟩ := AllD.get ha hd
      refine ⟨⟨vs, v, hs' e h, hv⟩, fun x H' hy => ?_⟩
      obtain ⟨rfl, hx⟩ := hy
      have z := hx vs (hs' e h)
      rw [hv] at z
      cases z
      exact ⟨F, Gw.refl F, h, d.mono e dv⟩
    · exact ⟨vs, hs' e h, by rw [AllD.length ha]; exact Nat.le_refl _⟩)
theorem ei_tup (h : E G C it Γ O (dTup G.K ds)) : EI G C tg it Γ O anyO ds := .mk fun X c F σ H hh R q =>
  wi_of (pi_tup pe_can) (h.run X c F σ H hh _ fun F1 H1 v e1 h1 d1 => by
    obtain ⟨a, vs, rfl, hs, ha⟩ := d1
    have hs' : ∀ {F' O' H'}, Gw F1 F' → HoldO F' O' H' → SqT X.K H' a vs := fun e h => by rw [c.K]; exact gw_t (e.trans h.ex) hs
    refine ⟨a, rfl, ⟨vs, hs' (Gw.refl _) h1.ho⟩, q _ F1 H1 e1 h1 ⟨fun i d hd F O H _ e h => ?_, fun F O H _ e h => ?_⟩⟩
    · obtain ⟨v, hv, dv⟩ := AllD.get ha hd
      refine ⟨⟨vs, v, hs' e h, hv⟩, fun x H' hy => ?_⟩
      obtain ⟨rfl, hx⟩ := hy
      have z := hx vs (hs' e h)
      rw [hv] at z
      cases z
      exact ⟨F, Gw.refl F, h, d.mono e dv⟩
    · exact ⟨vs, hs' e h, by rw [AllD.length ha]; exact Nat.le_refl _⟩)
def signs (z : Str) : List Str := z.cps.toList.map fun c => ⟨#[c]⟩
theorem ei_str {z : Str} (h : E G C it Γ O (dS z)) : EI G C tg it Γ O anyO ((signs z).map dS) := .mk fun X c F σ H hh R q =>
  wi_of (pi_str pe_can) (h.run X c F σ H hh _ fun F1 H1 v e1 h1 d1 => by
    refine ⟨z, d1.1, q _ F1 H1 e1 h1 ⟨fun i d hd F O H _ e h => ?_, fun F O H _ e h => ?_⟩⟩
    · unfold signs at hd
      rw [List.getElem?_map, List.getElem?_map, Array.getElem?_toList] at hd
      cases hz : z.cps[i]? with
      | none => rw [hz] at hd; cases hd
      | some cc =>
        rw [hz] at hd
        cases hd
        refine ⟨(Array.getElem?_eq_some_iff.mp hz).1, fun x H' hy => ?_⟩
        obtain ⟨rfl, c', hc', rfl⟩ := hy
        rw [hz] at hc'
        cases hc'
        exact ⟨F, Gw.refl F, h, rfl, okS_sign d1.2 (Array.mem_toList_iff.mpr (Array.mem_of_getElem? hz))⟩
    · show z.cps.size ≤ _
      unfold signs
      rw [List.length_map, List.length_map, Array.length_toList]
      exact Nat.le_refl _)
def upto (n : Int) : List Int := (List.range n.toNat).map fun i => ((i : Nat) : Int)
def range2 (a b : Int) : List Int := (List.range (b - a).toNat).map fun i => a + ((i : Nat) : Int)
theorem ei_range {a : Expr} {n : Int} (g : Glo C "range") (hm : G.mg "range" = none) (h : E G C a Γ O (dI n)) (hn : -(2 ^ 62) ≤ n ∧ n < 2 ^ 62) (hs : ∀ env, starEach [a] env = [(false, eval a env)]) : EI G C tg (.Call (.Name "range" p1) [a] [] pos) Γ O anyO ((upto n).map dI) := .mk fun X c F σ H hh R q =>
  wi_of (pi_range1 (c.gl g) (by rw [c.mg]; exact hm) (pa_cons pe_can pa_nil (by rw [hs]; rfl)) (hs X.env)) (h.run X c F σ H hh _ fun F1 H1 v e1 h1 d1 => by
    refine ⟨n, by rw [show v = .int n from d1], hn.1, hn.2, q _ F1 H1 e1 h1 ⟨fun i d hd F O H _ e h => ?_, fun F O H _ e h => ?_⟩⟩
    · unfold upto at hd
      rw [List.getElem?_map, List.getElem?_map] at hd
      by_cases hi : i < n.toNat
      · rw [List.getElem?_range hi] at hd
        cases hd
        refine ⟨hi, fun x H' hy => ?_⟩
        obtain ⟨rfl, rfl⟩ := hy
        exact ⟨F, Gw.refl F, h, by rw [Int.zero_add]; rfl⟩
      · rw [List.getElem?_eq_none (by rw [List.length_range]; omega)] at hd
        cases hd
    · show n.toNat ≤ _
      unfold upto
      rw [List.length_map, List.length_map, List.length_range]
      exact Nat.le_refl _)
end
end Kn
namespace Kn
open PySem PySem.Spec L2
def nth {α : Type} [Inhabited α] (xs : List α) (i : Int) : α := (atI xs i).getD default
def inR (n : Nat) (i : Int) : Prop := -(n : Int) ≤ i ∧ i < n
theorem ixN_some {n : Nat} {i : Int} (h : inR n i) : ∃ j, ixN n i = some j ∧ j < n := by
  obtain ⟨h1, h2⟩ := h
  unfold ixN
  by_cases h0 : 0 ≤ i
  · rw [if_pos h0, if_pos h2]
    exact ⟨_, rfl, by omega⟩
  · rw [if_neg h0, if_pos h1]
    exact ⟨_, rfl, by omega⟩
theorem atI_nth {α : Type} [Inhabited α] {xs : List α} {i : Int} (h : inR xs.length i) : atI xs i = some (nth xs i) := by
  obtain ⟨j, e, hj⟩ := ixN_some h
  have a : atI xs i = some xs[j] := by
    unfold atI
    rw [e]
    exact List.getElem?_eq_getElem hj
  unfold nth
  rw [a]
  rfl
theorem nth_nat {α : Type} [Inhabited α] {xs : List α} {i : Int} (h0 : 0 ≤ i) (h : i < xs.length) : nth xs i = xs[i.toNat]'(by omega) := by
  unfold nth atI ixN
  rw [if_pos h0, if_pos h]
  show ((xs[i.toNat]?).getD default) = _
  rw [List.getElem?_eq_getElem (by omega)]
  rfl
theorem atI_map {α β : Type} (f : α → β) (xs : List α) (i : Int) : atI (xs.map f) i = (atI xs i).map f := by
  unfold atI
  rw [List.length_map]
  cases ixN xs.length i with
  | none => rfl
  | some j => exact List.getElem?_map ..
theorem AllD.atI {F : Hp} {ds : List D} {vs : List V} {i : Int} {d : D} (h : AllD F ds vs) (e : L2.atI ds i = some d) : ∃ v, L2.atI vs i = some v ∧ d.ok F v := by
  unfold L2.atI at e ⊢
  rw [AllD.length h]
  cases q : ixN ds.length i with
  | none => rw [q] at e; cases e
  | some j => rw [q] at e; exact AllD.get h e
def cut {α : Type} (xs : List α) (lo hi : Option Int) : List α := (xs.drop (HT.sIx xs.length 0 lo)).take (HT.sIx xs.length xs.length hi - HT.sIx xs.length 0 lo)
theorem cut_map {α β : Type} (f : α → β) (xs : List α) (lo hi : Option Int) : cut (xs.map f) lo hi = (cut xs lo hi).map f := by
  unfold cut
  rw [List.length_map, List.map_take, List.map_drop]
theorem AllD.cut {F : Hp} {ds : List D} {vs : List V} (lo hi : Option Int) (h : AllD F ds vs) : AllD F (cut ds lo hi) (cutV vs lo hi) := by
  unfold Kn.cut cutV
  rw [AllD.length h]
  exact AllD.take _ (AllD.drop _ h)
structure EO (G : Cfg) (C : Sc) (e : Option Expr) (Γ : Fr) (O : Own) (i : Option Int) : Prop where
  run : ∀ X, InC G C X → ∃ t, PO X e t ∧ ∀ (F : Hp) (σ : L2.St) (H : Hp), Hold F Γ O σ H → ∀ Q : Option Int → Hp → Prop, (∀ F' H', Gw F F' → Hold F' Γ O σ H' → Q i H') → t σ H Q
structure CalR (G : Cfg) (C : Sc) (f : Value) (O : Own) (ds : List D) (d : D) : Prop where
  ex : ∀ X, InC G C X → ∃ r, CallR X f r ∧ RCD r O ds d
structure CalN (G : Cfg) (C : Sc) (f : Value) (O : Own) (ds : List D) (od : OD) : Prop where
  ex : ∀ X, InC G C X → ∃ r, CallR X f r ∧ RCN r O ds od
section
variable {G : Cfg} {C : Sc} {Γ : Fr} {O : Own} {e a b c : Expr} {es : List Expr} {d da db dc : D} {ds : List D} {pos p1 p2 p3 : Pos} {x : Str} {α : Type} {f : α → D}
theorem eo_none : EO G C none Γ O none := .mk fun X c => ⟨_, po_none, fun F σ H hh Q q => q F H (Gw.refl F) hh⟩
theorem eo_some {i : Int} (h : E G C e Γ O (dI i)) : EO G C (some e) Γ O (some i) := .mk fun X c => ⟨_, po_some pe_can, fun F σ H hh Q q => h.run X c F σ H hh _ fun F1 H1 v e1 h1 d1 => ⟨i, d1, q F1 H1 e1 h1⟩⟩
theorem e_ix {r : R2} (hr : ∀ X, InC G C X → IxR X r) (h : R2D r O da db d) (ha : E G C a Γ O da) (hb : E G C b Γ O db) (hs : PlainIx b) : E G C (.Subscript a b pos) Γ O d := .mk fun X c F σ H hh Q q => by
  refine we_of (pe_ix (hr X c) pe_can pe_can hs) (ha.run X c F σ H hh _ fun F1 H1 v e1 h1 d1 => ?_)
  refine hb.run X c F1 σ H1 h1 _ fun F2 H2 u e2 h2 d2 => ?_
  exact h F2 H2 v u h2.ho (da.mono e2 d1) d2 _ fun F3 H3 z e3 h3 d3 => q F3 H3 z ((e1.trans e2).trans e3) (h2.mono e3 h3) d3
theorem e_ixL {i : Int} (hi : atI ds i = some d) (ha : E G C a Γ O (dLst G.K ds)) (hb : E G C b Γ O (dI i)) (hs : PlainIx b) : E G C (.Subscript a b pos) Γ O d :=
  e_ix (r := rIxL G.K) (fun X c => c.K ▸ ix_list) (fun F H v u hh h1 h2 Q q => by
    obtain ⟨p, vs, rfl, hs, ha⟩ := h1
    obtain ⟨w, hw, dw⟩ := AllD.atI ha hi
    exact ⟨p, vs, i, w, rfl, h2, gw_l hh.ex hs.sq, hw, q F H w (Gw.refl F) hh dw⟩) ha hb hs
theorem e_ixT {i : Int} (hi : atI ds i = some d) (ha : E G C a Γ O (dTup G.K ds)) (hb : E G C b Γ O (dI i)) (hs : PlainIx b) : E G C (.Subscript a b pos) Γ O d :=
  e_ix (r := rIxT G.K) (fun X c => c.K ▸ ix_tup) (fun F H v u hh h1 h2 Q q => by
    obtain ⟨p, vs, rfl, hs, ha⟩ := h1
    obtain ⟨w, hw, dw⟩ := AllD.atI ha hi
    exact ⟨p, vs, i, w, rfl, h2, gw_t hh.ex hs, hw, q F H w (Gw.refl F) hh dw⟩) ha hb hs
theorem e_nthL [Inhabited α] {xs : List α} {i : Int} (ha : E G C a Γ O (dLst G.K (xs.map f))) (hb : E G C b Γ O (dI i)) (hi : inR xs.length i) (hs : PlainIx b) : E G C (.Subscript a b pos) Γ O (f (nth xs i)) :=
  e_ixL (by rw [atI_map, atI_nth hi]; rfl) ha hb hs
def signAt (z : Str) (i : Int) : Str := ⟨#[nth z.cps.toList i]⟩
theorem nth_mem {α : Type} [Inhabited α] {xs : List α} {i : Int} (h : inR xs.length i) : nth xs i ∈ xs := by
  have e := atI_nth h
  unfold atI at e
  cases q : ixN xs.length i with
  | none => rw [q] at e; cases e
  | some j => rw [q] at e; exact List.mem_of_getElem? e
theorem okS_signAt {z : Str} {i : Int} (h : okS z) (hi : inR z.length i) : okS (signAt z i) := okS_sign h (nth_mem (by rw [Array.length_toList]; exact hi))
theorem e_ixS {z : Str} {i : Int} (ha : E G C a Γ O (dS z)) (hb : E G C b Γ O (dI i)) (hi : inR z.length i) (hs : PlainIx b) : E G C (.Subscript a b pos) Γ O (dS (signAt z i)) :=
  e_ix (r := rIxS) (da := dS z) (db := dI i) (fun X c => ix_str) (fun F H v u hh h1 h2 Q q => ⟨z, i, nth z.cps.toList i, h1.1, h2, h1.2.2, atI_nth (by rw [Array.length_toList]; exact hi), q F H _ (Gw.refl F) hh ⟨rfl, okS_signAt h1.2 hi⟩⟩) ha hb hs
theorem en_sl {lo hi : Option Expr} {i j : Option Int} (ha : E G C a Γ O (dLst G.K ds)) (hl : EO G C lo Γ O i) (hh : EO G C hi Γ O j) : EN G C (.Subscript a (.Slice lo hi none p2) pos) Γ O (oLst (cut ds i j)) := .mk fun X c F σ H h0 Q q => by
  obtain ⟨tl, pl, ql⟩ := hl.run X c
  obtain ⟨th, ph, qh⟩ := hh.run X c
  refine we_of (pe_slice sl_list pe_can pl ph) (ha.run X c F σ H h0 _ fun F1 H1 v e1 h1 d1 => ?_)
  refine ql F1 σ H1 h1 _ fun F2 H2 e2 h2 => qh F2 σ H2 h2 _ fun F3 H3 e3 h3 => ?_
  obtain ⟨p, vs, rfl, hs, ha⟩ := (dLst G.K ds).mono (e2.trans e3) d1
  exact ⟨p, vs, rfl, by rw [c.K]; exact gw_l h3.ho.ex hs.sq, fun r hr => q F3 _ r ((e1.trans e2).trans e3) ⟨h3.fr, h3.ho.own hr ⟨_, rfl, AllD.cut i j ha⟩⟩⟩
theorem en_cut {xs : List α} {lo hi : Option Expr} {i j : Option Int} (ha : E G C a Γ O (dLst G.K (xs.map f))) (hl : EO G C lo Γ O i) (hh : EO G C hi Γ O j) : EN G C (.Subscript a (.Slice lo hi none p2) pos) Γ O (oLst ((cut xs i j).map f)) := by
  rw [← cut_map]; exact en_sl ha hl hh
def rCatL (K : PySem.W.Frag) : R2 := fun x y H Q => ∃ l b xs zs, x = .ref l ∧ y = .ref b ∧ LsA K H l xs ∧ LsA K H b zs ∧ xs.length + zs.length ≤ sizeLine ∧ ∀ p, H p = none → Q (.ref p) (upd H p (.lst (xs ++ zs)))
theorem op_catL {X : Cx} : OpR X (binaryOp .Add) (rCatL X.K) := by
  intro pins s σ H x y v u Q I rx ry h
  obtain ⟨l, b, xs, zs, rfl, rfl, h1, h2, hz, q⟩ := h
  cases rx
  cases ry
  obtain ⟨its, n, r, e, _⟩ := h1.get I
  obtain ⟨its2, n2, r2, e2, _⟩ := h2.get I
  have l1 := r.length
  have l2 := r2.length
  refine PySem.P.add_list e e2 ?_ (by rw [List.size_toArray, List.size_toArray]; omega)
  have ea : its.toArray ++ its2.toArray = (its ++ its2).toArray := by simp
  rw [ea]
  exact ⟨.ref _, _, I.lnew (t' := s.toks) (r.append r2) (by rw [List.length_append]; omega), rfl, q _ I.fresh⟩
theorem en_catD {ds es : List D} (ha : E G C a Γ O (dLst G.K ds)) (hb : E G C b Γ O (dLst G.K es)) (hl : ds.length + es.length ≤ sizeLine) : EN G C (.BinOp a .Add b pos) Γ O (oLst (ds ++ es)) := .mk fun X c F σ H hh Q q => by
  refine we_of (pe_op op_catL pe_can pe_can) (ha.run X c F σ H hh _ fun F1 H1 v e1 h1 d1 => ?_)
  refine hb.run X c F1 σ H1 h1 _ fun F2 H2 u e2 h2 d2 => ?_
  obtain ⟨p, vs, rfl, hs, h3⟩ := (dLst G.K ds).mono e2 d1
  obtain ⟨p', us, rfl, hs', h4⟩ := d2
  refine ⟨p, p', vs, us, rfl, rfl, by rw [c.K]; exact hs.mono h2.ho.ex, by rw [c.K]; exact hs'.mono h2.ho.ex, by rw [AllD.length h3, AllD.length h4]; exact hl, fun r hr => ?_⟩
  exact q F2 _ r (e1.trans e2) ⟨h2.fr, h2.ho.own hr ⟨_, rfl, AllD.append h3 h4⟩⟩
theorem en_cat {xs ys : List α} (ha : E G C a Γ O (dLst G.K (xs.map f))) (hb : E G C b Γ O (dLst G.K (ys.map f))) (hl : xs.length + ys.length ≤ sizeLine) : EN G C (.BinOp a .Add b pos) Γ O (oLst ((xs ++ ys).map f)) := by
  rw [List.map_append]
  exact en_catD ha hb (by rw [List.length_map, List.length_map]; exact hl)
theorem c_inS {w : V} {xs : List V} (h1 : flatV w = true) (h2 : xs.all flatV = true) : CmpR G C .In O (dV w) (dLst G.K (xs.map dV)) (inV w xs) := cmp_of (fun X c => c.K ▸ op_in_seq) fun F H v u hh e1 h Q q => by
  obtain ⟨p, vs, rfl, hs, ha⟩ := h
  have ev := AllD.dV ha
  subst ev
  cases e1
  exact ⟨p, vs, rfl, .inl (gw_l hh.ex hs.sq), h1, h2, q F H _ (Gw.refl F) hh rfl⟩
theorem c_ninS {w : V} {xs : List V} (h1 : flatV w = true) (h2 : xs.all flatV = true) : CmpR G C .NotIn O (dV w) (dLst G.K (xs.map dV)) (!inV w xs) := cmp_of (fun X c => c.K ▸ op_notIn_seq) fun F H v u hh e1 h Q q => by
  obtain ⟨p, vs, rfl, hs, ha⟩ := h
  have ev := AllD.dV ha
  subst ev
  cases e1
  exact ⟨p, vs, rfl, .inl (gw_l hh.ex hs.sq), h1, h2, q F H _ (Gw.refl F) hh rfl⟩
theorem c_inT {w : V} {xs : List V} (h1 : flatV w = true) (h2 : xs.all flatV = true) : CmpR G C .In O (dV w) (dTup G.K (xs.map dV)) (inV w xs) := cmp_of (fun X c => c.K ▸ op_in_seq) fun F H v u hh e1 h Q q => by
  obtain ⟨p, vs, rfl, hs, ha⟩ := h
  have ev := AllD.dV ha
  subst ev
  cases e1
  exact ⟨p, vs, rfl, .inr (gw_t hh.ex hs), h1, h2, q F H _ (Gw.refl F) hh rfl⟩
theorem c_ninSign {c : Nat} {z : Str} : CmpR G C .NotIn O (dS ⟨#[c]⟩) (dS z) (!decide (c ∈ z.cps.toList)) := cmp_of (fun _ _ => op_notIn_sign) fun F H v u hh e1 e2 Q q => ⟨c, z, e1.1, e2.1, q F H _ (Gw.refl F) hh rfl⟩
theorem e_callB {id : String} (hc : CalR G C (.builtin id) O ds d) (g : Glo C x) (hm : G.mg x = none) (hv : bootBuiltins x = some (.builtin id)) (ha : A G C (e :: es) Γ O ds) (hs : ∀ env, starEach (e :: es) env = (false, eval e env) :: starEach es env) : E G C (.Call (.Name x p1) (e :: es) [] pos) Γ O d := .mk fun X c F σ H hh Q q => by
  obtain ⟨r, hr, hd⟩ := hc.ex X c
  refine we_of (pe_callB hr (c.gl g) (by rw [c.mg]; exact hm) hv pa_can g.2.2 g.2.1 (hs X.env) ?_) (ha.run X c F σ H hh _ fun F1 H1 vs e1 h1 d1 => hd F1 H1 vs h1.ho d1 _ fun F2 H2 z e2 h2 d2 => q F2 H2 z (e1.trans e2) (h1.mono e2 h2) d2)
  have a := ha.bt pos X.env
  rw [hs] at a
  unfold backTo at a ⊢
  rw [List.map_cons, List.any_cons] at a
  exact (Bool.or_eq_false_iff.mp a).2
theorem e_callT {T : String} (hc : CalR G C (.type T) O ds d) (g : Glo C x) (hm : G.mg x = none) (hv : bootBuiltins x = some (.type T)) (ha : A G C (e :: es) Γ O ds) (hs : ∀ env, starEach (e :: es) env = (false, eval e env) :: starEach es env) : E G C (.Call (.Name x p1) (e :: es) [] pos) Γ O d := .mk fun X c F σ H hh Q q => by
  obtain ⟨r, hr, hd⟩ := hc.ex X c
  refine we_of (pe_callTy hr (c.gl g) (by rw [c.mg]; exact hm) hv pa_can g.2.2 g.2.1 (hs X.env) ?_) (ha.run X c F σ H hh _ fun F1 H1 vs e1 h1 d1 => hd F1 H1 vs h1.ho d1 _ fun F2 H2 z e2 h2 d2 => q F2 H2 z (e1.trans e2) (h1.mono e2 h2) d2)
  have a := ha.bt pos X.env
  rw [hs] at a
  unfold backTo at a ⊢
  rw [List.map_cons, List.any_cons] at a
  exact (Bool.or_eq_false_iff.mp a).2
theorem en_callB {id : String} {od : OD} (hc : CalN G C (.builtin id) O ds od) (g : Glo C x) (hm : G.mg x = none) (hv : bootBuiltins x = some (.builtin id)) (ha : A G C (e :: es) Γ O ds) (hs : ∀ env, starEach (e :: es) env = (false, eval e env) :: starEach es env) : EN G C (.Call (.Name x p1) (e :: es) [] pos) Γ O od := .mk fun X c F σ H hh Q q => by
  obtain ⟨r, hr, hd⟩ := hc.ex X c
  refine we_of (pe_callB hr (c.gl g) (by rw [c.mg]; exact hm) hv pa_can g.2.2 g.2.1 (hs X.env) ?_) (ha.run X c F σ H hh _ fun F1 H1 vs e1 h1 d1 => hd F1 H1 vs h1.ho d1 _ fun F2 H2 z e2 h2 => q F2 H2 z (e1.trans e2) ⟨h1.fr.mono e2, h2⟩)
  have a := ha.bt pos X.env
  rw [hs] at a
  unfold backTo at a ⊢
  rw [List.map_cons, List.any_cons] at a
  exact (Bool.or_eq_false_iff.mp a).2
theorem en_callT {T : String} {od : OD} (hc : CalN G C (.type T) O ds od) (g : Glo C x) (hm : G.mg x = none) (hv : bootBuiltins x = some (.type T)) (ha : A G C (e :: es) Γ O ds) (hs : ∀ env, starEach (e :: es) env = (false, eval e env) :: starEach es env) : EN G C (.Call (.Name x p1) (e :: es) [] pos) Γ O od := .mk fun X c F σ H hh Q q => by
  obtain ⟨r, hr, hd⟩ := hc.ex X c
  refine we_of (pe_callTy hr (c.gl g) (by rw [c.mg]; exact hm) hv pa_can g.2.2 g.2.1 (hs X.env) ?_) (ha.run X c F σ H hh _ fun F1 H1 vs e1 h1 d1 => hd F1 H1 vs h1.ho d1 _ fun F2 H2 z e2 h2 => q F2 H2 z (e1.trans e2) ⟨h1.fr.mono e2, h2⟩)
  have a := ha.bt pos X.env
  rw [hs] at a
  unfold backTo at a ⊢
  rw [List.map_cons, List.any_cons] at a
  exact (Bool.or_eq_false_iff.mp a).2
theorem all1 {F : Hp} {vs : List V} (h : AllD F [d] vs) : ∃ v, vs = [v] ∧ d.ok F v := by
  match vs, h with
  | [v], h => exact ⟨v, rfl, h.1⟩
  | [], h => exact h.elim
  | _ :: _ :: _, h => exact h.2.elim
theorem all2 {F : Hp} {vs : List V} (h : AllD F [d, da] vs) : ∃ v u, vs = [v, u] ∧ d.ok F v ∧ da.ok F u := by
  match vs, h with
  | [v, u], h => exact ⟨v, u, rfl, h.1, h.2.1⟩
  | [], h => exact h.elim
  | [_], h => exact h.2.elim
  | _ :: _ :: _ :: _, h => exact h.2.2.elim
theorem k_lenL : CalR G C (.builtin "len") O [dLst G.K ds] (dI ds.length) := ⟨fun X c => ⟨_, call_len_seq, fun F H vs hh h Q q => by
  obtain ⟨v, rfl, p, us, rfl, hs, ha⟩ := all1 h
  refine ⟨p, us, rfl, .inl (by rw [c.K]; exact gw_l hh.ex hs.sq), ?_⟩
  rw [AllD.length ha]
  exact q F H _ (Gw.refl F) hh rfl⟩⟩
theorem k_lenT : CalR G C (.builtin "len") O [dTup G.K ds] (dI ds.length) := ⟨fun X c => ⟨_, call_len_seq, fun F H vs hh h Q q => by
  obtain ⟨v, rfl, p, us, rfl, hs, ha⟩ := all1 h
  refine ⟨p, us, rfl, .inr (by rw [c.K]; exact gw_t hh.ex hs), ?_⟩
  rw [AllD.length ha]
  exact q F H _ (Gw.refl F) hh rfl⟩⟩
theorem k_lenS {z : Str} : CalR G C (.builtin "len") O [dS z] (dI z.length) := ⟨fun X c => ⟨_, call_len_str, fun F H vs hh h Q q => by
  obtain ⟨v, rfl, hv⟩ := all1 h
  exact ⟨z, by rw [hv.1], hv.2.2, q F H _ (Gw.refl F) hh rfl⟩⟩⟩
theorem k_max [Calm C] {i j : Int} : CalR G C (.builtin "max") O [dI i, dI j] (dI (if j > i then j else i)) := ⟨fun X c => ⟨_, call_max2 c.cm, fun F H vs hh h Q q => by
  obtain ⟨v, u, rfl, h1, h2⟩ := all2 h
  exact ⟨i, j, by rw [show v = .int i from h1, show u = .int j from h2], q F H _ (Gw.refl F) hh rfl⟩⟩⟩
theorem k_min [Calm C] {i j : Int} : CalR G C (.builtin "min") O [dI i, dI j] (dI (if j < i then j else i)) := ⟨fun X c => ⟨_, call_min2 c.cm, fun F H vs hh h Q q => by
  obtain ⟨v, u, rfl, h1, h2⟩ := all2 h
  exact ⟨i, j, by rw [show v = .int i from h1, show u = .int j from h2], q F H _ (Gw.refl F) hh rfl⟩⟩⟩
theorem k_intB {k : Bool} : CalR G C (.type "int") O [dB k] (dI (if k then 1 else 0)) := ⟨fun X c => ⟨_, call_int1, fun F H vs hh h Q q => by
  obtain ⟨v, rfl, h1⟩ := all1 h
  exact .inr ⟨k, by rw [show v = .bl k from h1], q F H _ (Gw.refl F) hh rfl⟩⟩⟩
theorem k_listL : CalN G C (.type "list") O [dLst G.K ds] (oLst ds) := ⟨fun X c => ⟨_, call_list_of, fun F H vs hh h Q q => by
  obtain ⟨v, rfl, p, us, rfl, hs, ha⟩ := all1 h
  exact ⟨p, us, rfl, .inl (by rw [c.K]; exact gw_l hh.ex hs.sq), fun l hl => q F _ l (Gw.refl F) (hh.own hl ⟨us, rfl, ha⟩)⟩⟩⟩
theorem k_tupL : CalR G C (.type "tuple") O [dLst G.K ds] (dTup G.K ds) := ⟨fun X c => ⟨_, call_tuple_of, fun F H vs hh h Q q => by
  obtain ⟨v, rfl, p, us, rfl, hs, ha⟩ := all1 h
  refine ⟨p, us, rfl, .inl ⟨by rw [c.K]; exact gw_l hh.ex hs.sq, fun l hl => ?_⟩⟩
  obtain ⟨h2, e2⟩ := hh.laid (o := .tup us) hl
  exact q _ _ _ e2 h2 ⟨l, us, rfl, .inl (.inl upd_same), AllD.mono e2 ha⟩⟩⟩
def IsTy (K : PySem.W.Frag) (d : D) (t : String) : Prop := ∀ F H v, Gw F H → d.ok F v → TyX K H v (.type t)
theorem ty_int {K : PySem.W.Frag} {i : Int} : IsTy K (dI i) "int" := fun F H v _ h => (show v = .int i from h) ▸ .base (.int i)
theorem ty_str {K : PySem.W.Frag} {i : Str} : IsTy K (dS i) "str" := fun F H v _ h => h.1 ▸ .base (.str i)
theorem ty_bool {K : PySem.W.Frag} {i : Bool} : IsTy K (dB i) "bool" := fun F H v _ h => (show v = .bl i from h) ▸ .base (.bl i)
theorem ty_none {K : PySem.W.Frag} : IsTy K dN "NoneType" := fun F H v _ h => (show v = .non from h) ▸ .base .non
theorem ty_lst {K : PySem.W.Frag} {ds : List D} : IsTy K (dLst K ds) "list" := fun F H v ex ⟨a, vs, h1, h2, h3⟩ => by
  subst h1
  rcases h2 with (h2 | ⟨o, h2⟩) | ⟨its, n, h2, _⟩
  · exact .base (.lst (ex _ _ h2))
  · exact .base (.frz (ex _ _ h2))
  · exact .kList h2 rfl
theorem ty_tup {K : PySem.W.Frag} {ds : List D} : IsTy K (dTup K ds) "tuple" := fun F H v ex ⟨a, vs, h1, h2, h3⟩ => by
  subst h1
  rcases h2 with (h2 | ⟨o, h2⟩) | ⟨o, its, n, h2, hc, _⟩
  · exact .base (.tup (ex _ _ h2))
  · exact .fTuple (ex _ _ h2)
  · exact .kTuple h2 hc
theorem k_isi {t n : String} {b : Bool} (ht : IsTy G.K d t) (hb : kitB t n = some b) : CalR G C (.builtin "isinstance") O [d, dV (.ty n)] (dB b) := ⟨fun X c => ⟨_, call_isi, fun F H vs hh h Q q => by
  obtain ⟨v, u, rfl, h1, h2⟩ := all2 h
  exact ⟨v, u, _, _, b, rfl, (show u = .ty n from h2) ▸ .ty n, by rw [c.K]; exact ht F H v hh.ex h1, kit_ty hb, q F H _ (Gw.refl F) hh rfl⟩⟩⟩
theorem e_tyname {n : String} (g : Glo C x) (hm : G.mg x = none) (hv : bootBuiltins x = some (.type n)) : E G C (.Name x pos) Γ O (dV (.ty n)) := .mk fun X c F σ H hh Q q =>
  we_of (pe_bltn (v := .ty n) (c.gl g) (by rw [c.mg]; exact hm) hv rfl g.2.2 g.2.1) (q F H _ (Gw.refl F) hh rfl)
end
end Kn
namespace Kn
open PySem PySem.Spec L2
abbrev SpecD := List D → Own → RK → Prop
def spD (S : SpecD) : Sp := fun vs H Q E => ∃ ds O rk F, S ds O rk ∧ HoldO F O H ∧ AllD F ds vs ∧ (∀ v H', rk.ok F v H' → Q v H') ∧ ∀ c d H', rk.xo F c d H' → E c d H'
structure Callee (G : Cfg) (k : Nat) (x : Str) (S : SpecD) : Prop where
  ex : ∃ (f : Addr) (fd : FuncData) (ps : List Str), FnOk G.P G.w G.K G.mg G.base (CX G.P G.w) k f fd ps (spD S) ∧ G.mg x = some (.ref f) ∧ PySem.W.keepIn G.K (.ref f) = true ∧ Binds G.K fd ps []
def fnV (d : R → D) (O : Own) : Ek Empty R := ⟨fun e => e.elim, fun r => RK.val (d r) O, fun _ => XD.no⟩
def fnN (od : R → OD) (O : Own) : Ek Empty R := ⟨fun e => e.elim, fun r => RK.new (od r) O, fun _ => XD.no⟩
def frame0 (N : List Str) (ds : List D) : Fr := ds.map some ++ List.replicate (N.length - ds.length) none
theorem frame_start {F : Hp} {N : List Str} : ∀ {ds : List D} {vs : List V}, AllD F ds vs → FrOk F (frame0 N ds) (L2.start N vs) := fun {ds vs} h => by
  have hl := AllD.length h
  refine ⟨?_, fun i d e => ?_⟩
  · unfold frame0 L2.start
    rw [List.length_append, List.length_append, List.length_map, List.length_map, List.length_replicate, List.length_replicate, hl]
  · unfold frame0 at e
    by_cases hi : i < ds.length
    · rw [List.getElem?_append_left (by rw [List.length_map]; exact hi), List.getElem?_map] at e
      cases q : ds[i]? with
      | none => rw [q] at e; cases e
      | some d' =>
        rw [q] at e
        cases e
        obtain ⟨v, hv, dv⟩ := AllD.get h q
        refine ⟨v, ?_, dv⟩
        unfold L2.start
        rw [List.getElem?_append_left (by rw [List.length_map, hl]; exact hi), List.getElem?_map, hv]
        rfl
    · rw [List.getElem?_append_right (by rw [List.length_map]; omega), List.getElem?_replicate] at e
      split at e <;> cases e
theorem inC_of {CX : CXT} {P : Program} {w : World} {K : PySem.W.Frag} {mg : Str → Option Value} {base : Heap} {N : List Str} {qual : Str} {scope : Scope} {f : Addr} {cd : Value} {A : Around} {outer : List Env} {s : Shared} {H : Hp} {E : XK} {k : Nat}
    (hr : Room k (A.deeper (PyProof.Rows.envOfC qual scope s.heap.objs.size f cd))) : InC ⟨P, w, K, mg, base⟩ ⟨k, N, scope, true, true⟩ (cxOf CX P w K mg base N qual scope f cd A outer s H E) :=
  ⟨rfl, rfl, rfl, rfl, rfl, rfl, rfl, fun _ => rfl, hr.un, hr.dp, fun _ => hr.hd, fun _ => ⟨rfl, rfl⟩, passes_of rfl, fun _ _ => rfl⟩
theorem fn_ok {G : Cfg} {x qual : Str} {params : Arguments} {body : List Stmt} {scope : Scope} {f : Addr} {fd : FuncData} {N ps : List Str} {k : Nat} {S : SpecD} (F : FunD G.K x qual params body scope [] [] f fd) (sc : FnScope N ps scope)
    (len : ∀ ds O rk, S ds O rk → ds.length = ps.length)
    (hb : ∀ ds O rk, S ds O rk → ∃ (S1 R : Type) (ek : Ek S1 R) (r : R), SS G ⟨k, N, scope, true, true⟩ body (frame0 N ds) O ek (.rt r) ∧ ek.rs r = rk) : FnOk G.P G.w G.K G.mg G.base (CX G.P G.w) (k + 1) f fd ps (spD S) := by
  obtain ⟨P, w, K, mg, base⟩ := G
  refine F.ok sc (fun vs H Q E h => ?_) (fun cdv A outer s H vs Q E hr h => ?_)
  · obtain ⟨ds, O, rk, F0, hS, hO, ha, _⟩ := h
    rw [AllD.length ha]
    exact len ds O rk hS
  · obtain ⟨ds, O, rk, F0, hS, hO, ha, hq, hx⟩ := h
    obtain ⟨S1, R, ek, r, hss, hrk⟩ := hb ds O rk hS
    refine ⟨_, pss_can, hss.run _ (inC_of hr) _ (takes_of rfl rfl rfl rfl) F0 _ H ⟨frame_start ha, hO⟩ _ ⟨fun v H' hv => ?_, fun c d σ H' hv => ?_⟩⟩
    · rw [hrk] at hv
      exact hq v H' hv
    · rw [hrk] at hv
      exact hx c d H' hv
theorem callee_of {G : Cfg} {x : Str} {k : Nat} {S : SpecD} {f : Addr} {fd : FuncData} {ps : List Str} (F : FnOk G.P G.w G.K G.mg G.base (CX G.P G.w) k f fd ps (spD S)) (g : G.mg x = some (.ref f)) (kp : PySem.W.keepIn G.K (.ref f) = true) (b : Binds G.K fd ps []) : Callee G k x S := ⟨f, fd, ps, F, g, kp, b⟩
theorem Callee.imp {G : Cfg} {x : Str} {k : Nat} {S S' : SpecD} (c : Callee G k x S) (h : ∀ ds O rk, S' ds O rk → S ds O rk) : Callee G k x S' := by
  obtain ⟨f, fd, ps, F, g, kp, b⟩ := c.ex
  exact ⟨f, fd, ps, F.imp fun vs H Q E ⟨ds, O, rk, F0, q, r⟩ => ⟨ds, O, rk, F0, h _ _ _ q, r⟩, g, kp, b⟩
section
variable {G : Cfg} {C : Sc} {Γ : Fr} {O : Own} {e a b c : Expr} {es : List Expr} {d da db dc : D} {ds : List D} {od : OD} {pos p1 p2 p3 : Pos} {x : Str} {α β : Type} {S : SpecD} {k : Nat}
theorem we_call [Calm C] {rk : RK} (cal : Callee G k x S) (hk : k ≤ C.k) (g : Glo C x) (hS : S ds O rk) (ha : A G C (e :: es) Γ O ds) (hs : ∀ env, starEach (e :: es) env = (false, eval e env) :: starEach es env) {X : Cx} (c : InC G C X) {F : Hp} {σ : L2.St} {H : Hp} (hh : Hold F Γ O σ H) {Q : VK} (q : ∀ F1 v H', Gw F F1 → FrOk F1 Γ σ → rk.ok F1 v H' → Q v H') (hx : rk.NoX := by exact fun _ _ _ _ z => z) : WE X (.Call (.Name x p1) (e :: es) [] pos) σ H Q := by
  obtain ⟨f, fd, ps, Fn, gx, kp, bi⟩ := cal.ex
  have Fn' : FnOk X.prog X.w X.K X.mg X.base (CX X.prog X.w) k f fd ps (spD S) := by rw [c.p, c.w, c.K, c.mg, c.base]; exact Fn
  refine we_of (pe_call (dvs := []) (E := E0) Fn' (c.room.mono hk) (c.gl g) (by rw [c.mg]; exact gx) (by rw [c.K]; exact kp) (by rw [c.K]; exact bi) .nil passL pa_can g.2.1 (hs X.env) ?_) (ha.run X c F σ H hh _ fun F1 H1 vs e1 h1 d1 => ?_)
  · have a := ha.bt pos X.env
    rw [hs] at a
    unfold backTo at a ⊢
    rw [List.map_cons, List.any_cons] at a
    exact (Bool.or_eq_false_iff.mp a).2
  · rw [List.append_nil]
    exact ⟨ds, O, rk, F1, hS, h1.ho, d1, fun v H' hv => q F1 v H' e1 h1.fr hv, fun _ _ _ z => hx _ _ _ _ z⟩
theorem e_call [Calm C] (cal : Callee G k x S) (hk : k ≤ C.k) (g : Glo C x) (hS : S ds O (RK.val d O)) (ha : A G C (e :: es) Γ O ds) (hs : ∀ env, starEach (e :: es) env = (false, eval e env) :: starEach es env) : E G C (.Call (.Name x p1) (e :: es) [] pos) Γ O d := .mk fun X c F σ H hh Q q =>
  we_call cal hk g hS ha hs c hh fun F1 v H' e1 fr ⟨F2, e2, h2, d2⟩ => q F2 H' v (e1.trans e2) ⟨fr.mono e2, h2⟩ d2
theorem en_call [Calm C] (cal : Callee G k x S) (hk : k ≤ C.k) (g : Glo C x) (hS : S ds O (RK.new od O)) (ha : A G C (e :: es) Γ O ds) (hs : ∀ env, starEach (e :: es) env = (false, eval e env) :: starEach es env) : EN G C (.Call (.Name x p1) (e :: es) [] pos) Γ O od := .mk fun X c F σ H hh Q q =>
  we_call cal hk g hS ha hs c hh fun F1 v H' e1 fr ⟨F2, p, e2, hv, h2⟩ => by subst hv; exact q F2 H' p (e1.trans e2) ⟨fr.mono e2, h2⟩
def wipeF (Γ : Fr) : List Nat → Fr
  | [] => Γ
  | v :: vs => (wipeF Γ vs).set v none
theorem wipe_fr {F : Hp} {σ : L2.St} (h : FrOk F Γ σ) : ∀ vs : List Nat, FrOk F (wipeF Γ vs) (wipe σ vs)
  | [] => h
  | v :: vs => by
    obtain ⟨h1, h2⟩ := wipe_fr h vs
    refine ⟨by unfold wipeF wipe; rw [List.length_set, List.length_set]; exact h1, fun i d e => ?_⟩
    unfold wipeF at e
    unfold wipe
    by_cases hi : v = i
    · subst hi
      by_cases hv : v < (wipeF Γ vs).length
      · rw [List.getElem?_set_self hv] at e; cases e
      · rw [List.getElem?_eq_none (by rw [List.length_set]; omega)] at e; cases e
    · rw [List.getElem?_set_ne hi] at e ⊢
      exact h2 i d e
theorem wipe_at : ∀ (σ : L2.St) (vs : List Nat) (j : Nat), (wipe σ vs)[j]? = if j ∈ vs then (σ[j]?).map (fun _ => none) else σ[j]?
  | σ, [], j => by rw [if_neg (by simp)]; rfl
  | σ, v :: vs, j => by
    unfold wipe
    have ih := wipe_at σ vs j
    by_cases hv : v = j
    · subst hv
      rw [if_pos List.mem_cons_self]
      by_cases hl : v < (wipe σ vs).length
      · rw [List.getElem?_set_self hl]
        rw [wipe_length] at hl
        rw [List.getElem?_eq_getElem hl]
        rfl
      · rw [List.getElem?_eq_none (by rw [List.length_set]; omega)]
        rw [wipe_length] at hl
        rw [List.getElem?_eq_none (by omega)]
        rfl
    · rw [List.getElem?_set_ne hv, ih]
      by_cases hm : j ∈ vs
      · rw [if_pos hm, if_pos (List.mem_cons_of_mem _ hm)]
      · rw [if_neg hm, if_neg (fun z => (List.mem_cons.mp z).elim (fun e => hv e.symm) hm)]
theorem But.wipe {is vs : List Nat} {σ σ' : L2.St} (b : But is (wipe σ vs) σ') (h : ∀ i ∈ is, i ∈ vs) : L2.wipe σ' vs = L2.wipe σ vs := by
  refine List.ext_getElem? fun j => ?_
  have hl : σ'.length = σ.length := by rw [b.1, wipe_length]
  rw [wipe_at, wipe_at]
  by_cases hj : j ∈ vs
  · rw [if_pos hj, if_pos hj]
    by_cases hlt : j < σ.length
    · rw [List.getElem?_eq_getElem hlt, List.getElem?_eq_getElem (by omega)]
      rfl
    · rw [List.getElem?_eq_none (by omega), List.getElem?_eq_none (by omega)]
  · rw [if_neg hj, if_neg hj, b.2 j fun z => hj (h j z), wipe_at, if_neg hj]
abbrev Sc.blk (C : Sc) (scope : Scope) : Sc := ⟨C.k, C.N, relS scope C.sc, false, C.calm⟩
instance {C : Sc} {scope : Scope} [h : Calm C] : Calm (C.blk scope) := ⟨h.c⟩
theorem InC.blk {X : Cx} (c : InC G C X) (s : Shared) (H : Hp) (scope : Scope) (cl : List (Str × Addr)) (A : Addr) (fp : List Addr) : InC G (C.blk scope) (X.blk s H scope (compEnvC scope cl A X.env) fp) :=
  ⟨c.p, c.w, c.K, c.mg, c.base, c.n, (by show relS scope X.env.scope = relS scope C.sc; rw [c.sc]), c.calm, c.un, c.dp, c.hdl, (fun h => by cases h), PassesOwn.never, (fun h => by cases h)⟩
structure TsJ (G : Cfg) (C : Sc) (ifs : List Expr) (Γ : Fr) (O : Own) (b : Bool) : Prop where
  run : ∀ X, InC G C X → ∀ (F : Hp) (σ : L2.St) (H : Hp), Hold F Γ O σ H → ∀ Q : Bool → Hp → Prop, (∀ F' H', Gw F F' → Hold F' Γ O σ H' → Q b H') → ∀ (pins : List (Addr × Obj)) (s : Shared), Inv X pins σ H s →
  wpAny (model X.prog X.w) X.A (forIn ifs true fun c r =>
    if r = true then do
      let ok ← isTrue c X.env (eval c X.env)
      pure (ForInStep.yield ok)
    else pure (ForInStep.yield r)) (TP X pins σ Q) X.xe s
def WTs (X : Cx) (ifs : List Expr) : TT := fun σ H Q => ∀ (pins : List (Addr × Obj)) (s : Shared), Inv X pins σ H s →
  wpAny (model X.prog X.w) X.A (forIn ifs true fun c r =>
    if r = true then do
      let ok ← isTrue c X.env (eval c X.env)
      pure (ForInStep.yield ok)
    else pure (ForInStep.yield r)) (TP X pins σ Q) X.xe s
theorem ts_nil : TsJ G C [] Γ O true := .mk fun X c F σ H hh Q q pins s I => pts_nil.run pins s σ H Q I (q F H (Gw.refl F) hh)
theorem ts_one {k : Bool} (h : T G C c Γ O k) : TsJ G C [c] Γ O k := .mk fun X cc F σ H hh Q q pins s I => (pts_one pt_can).run pins s σ H Q I (h.run X cc F σ H hh Q q)
def BE (X : Cx) (scope : Scope) (e : Expr) : TE := fun σ H Q => ∀ (s : Shared) (H0 : Hp) (A : Addr) (cl : List (Str × Addr)) (fp : List Addr), WE (X.blk s H0 scope (compEnvC scope cl A X.env) fp) e σ H Q
def BT (X : Cx) (scope : Scope) (ifs : List Expr) : TT := fun σ H Q => ∀ (s : Shared) (H0 : Hp) (A : Addr) (cl : List (Str × Addr)) (fp : List Addr), WTs (X.blk s H0 scope (compEnvC scope cl A X.env) fp) ifs σ H Q
def BG (X : Cx) (scope : Scope) (tg : Expr) : TG := fun v σ H Q => ∀ (s : Shared) (H0 : Hp) (A : Addr) (cl : List (Str × Addr)) (fp : List Addr), WG (X.blk s H0 scope (compEnvC scope cl A X.env) fp) tg v σ H Q
structure ENL (G : Cfg) (C : Sc) (e : Expr) (Γ : Fr) (O : Own) (od : OD) : Prop where
  run : ∀ X, InC G C X → ∃ t : TE, PE X e t ∧ (∀ (i : Nat) (y : Str) (py spos : Pos), X.N[i]? = some y → X.env.scope.names.lookup y = some .local → swapsWith e (some (.Name y py)) spos.line X.env = pure true → PS X (.Assign [.Name y py] e spos) (tAsg t (gName i))) ∧
    ∀ (F : Hp) (σ : L2.St) (H : Hp), Hold F Γ O σ H → ∀ Q : VK, (∀ F' H' p, Gw F F' → Hold F' Γ ((p, od) :: O) σ H' → Q (.ref p) H') → t σ H Q
theorem en_enl {e : Expr} {od : OD} (h : ENL G C e Γ O od) : EN G C e Γ O od := .mk fun X c F σ H hh Q q => by
  obtain ⟨t, h1, _, h3⟩ := h.run X c
  exact we_of h1 (h3 F σ H hh Q q)
theorem enl_lcG [Calm C] {df : α → D} {dg : β → D} {xs : List α} {pf : α → Bool} {g : α → β} {tg it elt : Expr} {ifs : List Expr} {scope : Scope} {own : List (Str × Nat)} {is : List Nat} {Γ2 : α → Fr} {P : Own → Prop} (nd : C.N.Nodup) (hi : EI G C tg it Γ O P (xs.map df)) (hP : ∀ q ac, P ((q, oLst ac) :: O)) (ok : BlkOk C.N C.sc scope own)
    (hg : ∀ x, TJ G (C.blk scope) tg (df x) (wipeF Γ (own.map (·.2))) (Γ2 x) is) (his : ∀ i ∈ is, i ∈ own.map (·.2)) (ht : ∀ x, x ∈ xs → ∀ q ac, TsJ G (C.blk scope) ifs (Γ2 x) ((q, oLst ac) :: O) (pf x))
    (he : ∀ x, x ∈ xs → pf x = true → ∀ q ac, E G (C.blk scope) elt (Γ2 x) ((q, oLst ac) :: O) (dg (g x))) (hl : xs.length < 16000000) (hs : ∀ env x, foldedSetIterable it env x = pure x) : ENL G C (.ListComp elt [⟨tg, it, ifs, 0⟩] scope pos) Γ O (oLst (((xs.filter pf).map g).map dg)) := .mk fun X c => by
  have nd' : X.N.Nodup := by rw [c.n]; exact nd
  have ok' : BlkOk X.N X.env.scope scope own := by rw [c.n, c.sc]; exact ok
  refine ⟨_, pe_lc (g := BG X scope tg) (tt := BT X scope ifs) (te := BE X scope elt) c.cm nd' pi_can ok' (fun s H0 A cl fp => ⟨fun pins s1 σ1 H1 v u Q1 I r h => h s H0 A cl fp pins s1 u I r⟩) (fun s H0 A cl fp => ⟨fun pins s1 σ1 H1 Q1 I h => h s H0 A cl fp pins s1 I⟩)
    (fun s H0 A cl fp => ⟨fun pins s1 σ1 H1 Q1 I h => h s H0 A cl fp pins s1 I⟩) (hs X.env), fun i y py spos h1 h2 h3 => ps_setLc c.cm nd' h1 h2 h3 pi_can ok' (fun s H0 A cl fp => ⟨fun pins s1 σ1 H1 v u Q1 I r h => h s H0 A cl fp pins s1 u I r⟩) (fun s H0 A cl fp => ⟨fun pins s1 σ1 H1 Q1 I h => h s H0 A cl fp pins s1 I⟩)
    (fun s H0 A cl fp => ⟨fun pins s1 σ1 H1 Q1 I h => h s H0 A cl fp pins s1 I⟩) (hs X.env), fun F σ H hh Q q => ?_⟩
  refine hi.run X c F σ H hh _ fun J F1 H1 e1 h1 fd => ?_
  intro Dl hD
  refine ⟨fun i mm H' => ∃ F', mm = xs.length - i ∧ i ≤ xs.length ∧ Gw F1 F' ∧ HoldO F' ((Dl, oLst ((((xs.take i).filter pf).map g).map dg)) :: O) H', ⟨xs.length, F1, rfl, Nat.zero_le _, Gw.refl _, h1.ho.own hD ⟨[], rfl, trivial⟩⟩, ?_⟩
  rintro i mm H' ⟨F', rfl, hil, e2, h2⟩
  by_cases hlt : i < xs.length
  · have hd : (xs.map df)[i]? = some (df xs[i]) := by rw [List.getElem?_map, List.getElem?_eq_getElem hlt]; rfl
    have hmem : xs[i] ∈ xs := List.getElem_mem hlt
    have itm := fd.item i _ hd F' _ H' (hP _ _) e2 h2
    have htake : xs.take (i + 1) = xs.take i ++ [xs[i]] := List.take_succ_eq_append_getElem hlt
    refine .inr ⟨itm.1, fun H3 => ∃ F3, Gw F1 F3 ∧ HoldO F3 ((Dl, oLst ((((xs.take (i + 1)).filter pf).map g).map dg)) :: O) H3, fun H3 ⟨F3, x3, h3⟩ => ⟨xs.length - (i + 1), by omega, F3, rfl, hlt, x3, h3⟩, fun x H3 hy => ?_⟩
    obtain ⟨F3, e3, h3, d3⟩ := itm.2 x H3 hy
    have fr3 : FrOk F3 (wipeF Γ (own.map (·.2))) (wipe σ (own.map (·.2))) := wipe_fr (h1.fr.mono (e2.trans e3)) _
    intro s H0 A cl fp
    refine (hg xs[i]).run _ (c.blk s H0 scope cl A fp) F3 _ _ H3 x ⟨fr3, h3⟩ d3 _ fun σ4 h4 b4 => ?_
    refine ⟨b4.wipe his, fun s' H0' A' cl' fp' => ?_⟩
    refine (ht xs[i] hmem _ _).run _ (c.blk s' H0' scope cl' A' fp') F3 σ4 H3 h4 _ fun F5 H5 e5 h5 => ?_
    cases hp : pf xs[i] with
    | false =>
      refine iteF ⟨F5, ((e2.trans e3).trans e5), ?_⟩
      have ea : (xs.take (i + 1)).filter pf = (xs.take i).filter pf := by rw [htake, List.filter_append, List.filter_cons, hp]; simp
      rw [ea]
      exact h5.ho
    | true =>
      refine iteT fun s6 H06 A6 cl6 fp6 => ?_
      refine (he xs[i] hmem hp _ _).run _ (c.blk s6 H06 scope cl6 A6 fp6) F5 σ4 H5 h5 _ fun F6 H6 v e6 h6 d6 => ?_
      obtain ⟨_, o, hq, vs, rfl, ha⟩ := h6.ho.at (k := 0) rfl
      refine ⟨vs, hq, ?_, F6, (((e2.trans e3).trans e5).trans e6), ?_⟩
      · rw [AllD.length ha, List.length_map, List.length_map]
        have l1 := List.length_filter_le pf (xs.take i)
        rw [List.length_take] at l1
        have : (sizeLine : Nat) = 16777216 := by rw [sizeLine_eq]
        omega
      · have ea : (xs.take (i + 1)).filter pf = (xs.take i).filter pf ++ [xs[i]] := by rw [htake, List.filter_append, List.filter_cons, hp]; rfl
        rw [ea, List.map_append, List.map_append]
        exact h6.ho.write (k := 0) rfl ⟨_, rfl, AllD.append ha ⟨d6, trivial⟩⟩
  · have hi' : i = xs.length := by omega
    subst hi'
    have a := fd.stop F' _ H' (hP _ _) e2 h2
    rw [List.length_map] at a
    refine .inl ⟨a, ?_⟩
    rw [List.take_length] at h2
    exact q F' H' Dl (e1.trans e2) ⟨h1.fr.mono e2, h2⟩
theorem en_lcG [Calm C] {df : α → D} {dg : β → D} {xs : List α} {pf : α → Bool} {g : α → β} {tg it elt : Expr} {ifs : List Expr} {scope : Scope} {own : List (Str × Nat)} {is : List Nat} {Γ2 : α → Fr} {P : Own → Prop} (nd : C.N.Nodup) (hi : EI G C tg it Γ O P (xs.map df)) (hP : ∀ q ac, P ((q, oLst ac) :: O)) (ok : BlkOk C.N C.sc scope own)
    (hg : ∀ x, TJ G (C.blk scope) tg (df x) (wipeF Γ (own.map (·.2))) (Γ2 x) is) (his : ∀ i ∈ is, i ∈ own.map (·.2)) (ht : ∀ x, x ∈ xs → ∀ q ac, TsJ G (C.blk scope) ifs (Γ2 x) ((q, oLst ac) :: O) (pf x))
    (he : ∀ x, x ∈ xs → pf x = true → ∀ q ac, E G (C.blk scope) elt (Γ2 x) ((q, oLst ac) :: O) (dg (g x))) (hl : xs.length < 16000000) (hs : ∀ env x, foldedSetIterable it env x = pure x) : EN G C (.ListComp elt [⟨tg, it, ifs, 0⟩] scope pos) Γ O (oLst (((xs.filter pf).map g).map dg)) := en_enl (enl_lcG nd hi hP ok hg his ht he hl hs)
theorem enl_lc [Calm C] {df : α → D} {dg : β → D} {xs : List α} {g : α → β} {tg it elt : Expr} {scope : Scope} {own : List (Str × Nat)} {is : List Nat} {Γ2 : α → Fr} {P : Own → Prop} (nd : C.N.Nodup) (hi : EI G C tg it Γ O P (xs.map df)) (hP : ∀ q ac, P ((q, oLst ac) :: O)) (ok : BlkOk C.N C.sc scope own)
    (hg : ∀ x, TJ G (C.blk scope) tg (df x) (wipeF Γ (own.map (·.2))) (Γ2 x) is) (his : ∀ i ∈ is, i ∈ own.map (·.2))
    (he : ∀ x, x ∈ xs → ∀ q ac, E G (C.blk scope) elt (Γ2 x) ((q, oLst ac) :: O) (dg (g x))) (hl : xs.length < 16000000) (hs : ∀ env x, foldedSetIterable it env x = pure x) : ENL G C (.ListComp elt [⟨tg, it, [], 0⟩] scope pos) Γ O (oLst ((xs.map g).map dg)) := by
  have a := enl_lcG (G := G) (pos := pos) (pf := fun _ => true) nd hi hP ok hg his (fun x hx q ac => ts_nil) (fun x hx _ => he x hx) hl hs
  rw [List.filter_eq_self.mpr (fun _ _ => rfl)] at a
  exact a
theorem en_lc [Calm C] {df : α → D} {dg : β → D} {xs : List α} {g : α → β} {tg it elt : Expr} {scope : Scope} {own : List (Str × Nat)} {is : List Nat} {Γ2 : α → Fr} {P : Own → Prop} (nd : C.N.Nodup) (hi : EI G C tg it Γ O P (xs.map df)) (hP : ∀ q ac, P ((q, oLst ac) :: O)) (ok : BlkOk C.N C.sc scope own)
    (hg : ∀ x, TJ G (C.blk scope) tg (df x) (wipeF Γ (own.map (·.2))) (Γ2 x) is) (his : ∀ i ∈ is, i ∈ own.map (·.2))
    (he : ∀ x, x ∈ xs → ∀ q ac, E G (C.blk scope) elt (Γ2 x) ((q, oLst ac) :: O) (dg (g x))) (hl : xs.length < 16000000) (hs : ∀ env x, foldedSetIterable it env x = pure x) : EN G C (.ListComp elt [⟨tg, it, [], 0⟩] scope pos) Γ O (oLst ((xs.map g).map dg)) := en_enl (enl_lc nd hi hP ok hg his he hl hs)
structure SwL (C : Sc) (e : Expr) (x : Str) (py spos : Pos) : Prop where
  l : C.sc.names.lookup x = some .local
  sw : ∀ env : Env, env.scope = C.sc → swapsWith e (some (.Name x py)) spos.line env = pure true
theorem swL_of {elt : Expr} {gs : List Comprehension} {scope : Scope} {py spos pos : Pos} (h : (match C.sc.kind with
  | .function => true
  | _ => false) = true ∧ (match C.sc.names.lookup x with
  | some .local => true
  | _ => false) = true ∧ (py.line == pos.line) = true ∧ (scope.names.any fun (n, k) => n == x && (k == .local || k == .cell)) = false) : SwL C (.ListComp elt gs scope pos) x py spos := by
  obtain ⟨h1, h2, h3, h4⟩ := h
  have k1 : C.sc.kind = .function := by
    revert h1
    cases C.sc.kind <;> intro h <;> first | rfl | cases h
  have k2 : C.sc.names.lookup x = some .local := by
    revert h2
    cases C.sc.names.lookup x with
    | none => intro h; cases h
    | some k => cases k <;> intro h <;> first | rfl | cases h
  exact ⟨k2, fun env e => sw_true (by rw [e]; exact k1) (by rw [e]; exact k2) h3 h4⟩
section
variable {S R B' : Type} {kk : Ek S R} {oo : Out S R} {ss : List Stmt} {p1 : Pos} {e : Expr}
theorem ss_asgLc {α' : Type} {f : α' → D} {a : α'} {i : Nat} {ds : List D} {g : α' → B'} (ι : B' → Out S R) (l : Loca C i x) (sw : SwL C e x p1 pos) (h : ENL G C e Γ O (oLst ds)) (hf : dLst G.K ds = f a) (hr : ∀ y, y = a → SS G C ss (Γ.set i (some (f y))) O kk (ι (g y))) : SS G C (.Assign [.Name x p1] e pos :: ss) Γ O kk (ι (lt a g)) := .mk fun X c W tk F σ H hh D m => by
  obtain ⟨t, _, h2, h3⟩ := h.run X c
  refine wss_of (pss_cons (h2 i x p1 pos (by rw [c.n]; exact l.n) (by rw [c.sc]; exact sw.l) (sw.sw X.env c.sc)) pss_can) (h3 F σ H hh _ fun F1 H1 p e1 h1 => ?_)
  obtain ⟨F2, e2, h4, d2⟩ := freeze_lst (G := G) h1.ho
  refine (hr a rfl).run X c W tk F2 _ H1 (Hold.set i ⟨h1.fr.mono e2, h4⟩ ?_) D (meet.mono (e1.trans e2) m)
  rw [← hf]
  exact d2
end
end
section
variable {G : Cfg} {C : Sc} {Γ : Fr} {O : Own} {S1 R B : Type} {k : Ek S1 R} {o : Out S1 R} {e a b : Expr} {d : D} {ds : List D} {ss : List Stmt} {pos p1 p2 p3 p4 : Pos} {x : Str} {α : Type} {f : α → D} {p : Addr} {n : Nat}
theorem ss_app {xs : List α} {y : α} {g : List α → B} (ι : B → Out S1 R) (hk : O[n]? = some (p, oLst (xs.map f))) (ha : E G C a Γ O (dP p)) (h : E G C e Γ O (f y)) (hz : xs.length < 16000000) (hb : ∀ env, attributeBase a "append" env (eval a env) = eval a env) (hl : (p1.endLine == p2.line) = true) (hs : ∀ env, starEach [e] env = (false, eval e env) :: starEach [] env)
    (hr : ∀ ys, ys = xs ++ [y] → SS G C ss Γ (O.set n (p, oLst (ys.map f))) k (ι (g ys))) : SS G C (.Expr (.Call (.Attribute a "append" p1) [e] [] p2) pos :: ss) Γ O k (ι (lt (xs ++ [y]) g)) :=
  ss_cons (t := fun X => tDrop (tBM X.K "list" rAppend (WE X a) (tCons (WE X e) tNil))) (fun X c => ps_expr (pe_bm PySem.F.plainAttrs_list PySem.F.slot_list_append PySem.F.type_list_append mt_append pe_can (pa_cons pe_can pa_nil (hs X.env)) (hb X.env) (by rw [hs]; rfl) hl (hs X.env) rfl))
    fun X c W tk F σ H hh D m => by
      refine ha.run X c F σ H hh _ fun F1 H1 v e1 h1 d1 => ?_
      have d1' : v = .ref p := d1
      subst d1'
      obtain ⟨_, o, hp, vs, rfl, _⟩ := h1.ho.at hk
      refine ⟨.inl ⟨rfl, vs, SqL.of hp⟩, h.run X c F1 σ H1 h1 _ fun F2 H2 u e2 h2 d2 => ?_⟩
      obtain ⟨_, o2, hp2, us, rfl, hal⟩ := h2.ho.at hk
      refine ⟨p, us, u, rfl, rfl, hp2, ?_, ?_⟩
      · rw [AllD.length hal, List.length_map]
        have : (sizeLine : Nat) = 16777216 := by rw [sizeLine_eq]
        omega
      · refine (hr _ rfl).run X c W tk F2 σ _ ⟨h2.fr, h2.ho.write hk ⟨_, rfl, ?_⟩⟩ D (meet.mono (e1.trans e2) m)
        rw [List.map_append]
        exact AllD.append hal ⟨d2, trivial⟩
theorem ss_freeze {i : Nat} (hi : Γ[i]? = some (some (dP p))) (h : SS G C ss (Γ.set i (some (dLst G.K ds))) O k o) : SS G C ss Γ ((p, oLst ds) :: O) k o := .mk fun X c W tk F σ H hh D m => by
  obtain ⟨F', e, h2, d2⟩ := freeze_lst (G := G) hh.ho
  obtain ⟨v, hv, hd⟩ := hh.fr.2 i _ hi
  refine h.run X c W tk F' σ H ⟨?_, h2⟩ D (meet.mono e m)
  have hd' : v = .ref p := hd
  subst hd'
  have a := (hh.fr.mono e).set i d2
  have es : σ.set i (some (.ref p)) = σ := by
    refine List.ext_getElem? fun j => ?_
    by_cases hj : i = j
    · subst hj
      rw [List.getElem?_set_self (List.getElem?_eq_some_iff.mp hv).1, hv]
    · rw [List.getElem?_set_ne hj]
  rw [es] at a
  exact a
end
end Kn
namespace Kn
open PySem PySem.Spec L2
section
variable {α β γ δ : Type}
abbrev dLo (K : PySem.W.Frag) (f : α → D) (l : List α) : D := dLst K (l.map f)
abbrev dVt (K : PySem.W.Frag) (f : α → D) (l : List α) : D := dTup K (l.map f)
abbrev dT2 (K : PySem.W.Frag) (f : α → D) (g : β → D) (p : α × β) : D := dTup K [f p.1, g p.2]
abbrev dT3 (K : PySem.W.Frag) (f : α → D) (g : β → D) (h : γ → D) (p : α × β × γ) : D := dTup K [f p.1, g p.2.1, h p.2.2]
abbrev dT4 (K : PySem.W.Frag) (f : α → D) (g : β → D) (h : γ → D) (i : δ → D) (p : α × β × γ × δ) : D := dTup K [f p.1, g p.2.1, h p.2.2.1, i p.2.2.2]
end
structure Def (G : Cfg) (x : Str) (st : Stmt) : Prop where
  ex : ∃ (f : Addr) (fd : FuncData), FunD G.K x x (defArgs st) (defBody st) (defScope st) [] [] f fd ∧ G.mg x = some (.ref f)
theorem Def.callee {G : Cfg} {x : Str} {st : Stmt} (d : Def G x st) {N ps : List Str} {k : Nat} {S : SpecD} (sc : FnScope N ps (defScope st)) (len : ∀ ds O rk, S ds O rk → ds.length = ps.length)
    (hbind : ∀ (kV doc pm : Value) (an : Option Addr) (cdv ct : Value) (us : List Value), us.length = ps.length → bindArgs (PySem.W.fnOf x x (defArgs st) (defBody st) (defScope st) .none kV doc pm an cdv ct) ⟨us, []⟩ = pure (ps.zip us))
    (hb : ∀ ds O rk, S ds O rk → ∃ (S1 R : Type) (ek : Ek S1 R) (r : R), SS G ⟨k, N, defScope st, true, true⟩ (defBody st) (frame0 N ds) O ek (.rt r) ∧ ek.rs r = rk) : Callee G (k + 1) x S := by
  obtain ⟨f, fd, F, g⟩ := d.ex
  exact callee_of (fn_ok F sc len hb) g F.kp (F.bindsN hbind)
theorem scope_of {N ps : List Str} {sc : Scope} (h1 : sc.kind = .function) (h2 : sc.isCoroutine = false) (h3 : sc.isGenerator = false) (h : (decide N.Nodup && decide (N.take ps.length = ps) && ps.all (fun x => match sc.names.lookup x with
  | some .local => true
  | some .cell => true
  | _ => false) && sc.names.all fun y => match y.2 with
  | .free => false
  | _ => true) = true) : FnScope N ps sc := by
  simp only [Bool.and_eq_true, decide_eq_true_eq, List.all_eq_true] at h
  obtain ⟨⟨⟨a, b⟩, c⟩, d⟩ := h
  refine ⟨h1, h2, h3, a, b, fun x hx => ?_, fun y hy e => ?_⟩
  · have q := c x hx
    revert q
    cases sc.names.lookup x with
    | none => intro h; cases h
    | some k => cases k <;> intro h <;> first | exact .inl rfl | exact .inr rfl | cases h
  · have q := d y hy
    rw [e] at q
    cases q
section
variable {G : Cfg} {C : Sc} {Γ : Fr} {O : Own} {S1 R B : Type} {k : Ek S1 R} {o : Out S1 R} {e a b c : Expr} {es : List Expr} {d da db : D} {ds : List D} {ss : List Stmt} {pos p1 p2 p3 : Pos} {x : Str} {α : Type} {f : α → D}
theorem e_powC {i j : Int} (r : Int) (ha : E G C a Γ O (dI i)) (hb : E G C b Γ O (dI j)) (hm : (decide (0 ≤ j) && decide (j ≤ 1000000) && decide (i.natAbs < 2 ^ 64) && decide (i ^ j.toNat = r)) = true) : E G C (.BinOp a .Pow b pos) Γ O (dI r) := by
  simp only [Bool.and_eq_true, decide_eq_true_eq] at hm
  obtain ⟨⟨⟨h1, h2⟩, h3⟩, h4⟩ := hm
  exact e_eq (e_pow ha hb ⟨h1, h2, h3⟩) (by rw [h4])
theorem e_divS {i j : Int} (ha : E G C a Γ O (dI i)) (hb : E G C b Γ O (dI j)) (h1 : 0 < j ∧ j < 1073741824) : E G C (.BinOp a .FloorDiv b pos) Γ O (dI (i / j)) := e_div ha hb h1
theorem e_mulL {i j : Int} (ha : E G C a Γ O (dI i)) (hb : E G C b Γ O (dI j)) (h : -18446744073709551616 < i ∧ i < 18446744073709551616) : E G C (.BinOp a .Mult b pos) Γ O (dI (i * j)) := e_mul ha hb (.inl ⟨by have := h.1; omega, by have := h.2; omega⟩)
theorem e_mulR {i j : Int} (ha : E G C a Γ O (dI i)) (hb : E G C b Γ O (dI j)) (h : -18446744073709551616 < j ∧ j < 18446744073709551616) : E G C (.BinOp a .Mult b pos) Γ O (dI (i * j)) := e_mul ha hb (.inr ⟨by have := h.1; omega, by have := h.2; omega⟩)
theorem mem_upto {n i : Int} (h : i ∈ upto n) : 0 ≤ i ∧ i < n := by
  unfold upto at h
  obtain ⟨j, hj, rfl⟩ := List.mem_map.mp h
  have := List.mem_range.mp hj
  omega
theorem upto_len {n : Int} : (upto n).length = n.toNat := by unfold upto; rw [List.length_map, List.length_range]
theorem range2_len {m n : Int} : (range2 m n).length = (n - m).toNat := by unfold range2; rw [List.length_map, List.length_range]
theorem inR_mod {n : Nat} {i : Int} (h : 0 < n) : inR n (i % (n : Int)) := by
  have h1 := Int.emod_nonneg i (b := (n : Int)) (by omega)
  have h2 := Int.emod_lt_of_pos i (b := (n : Int)) (by omega)
  exact ⟨by omega, h2⟩
theorem inV_str {s : Str} : ∀ {l : List Str}, inV (.str s) (l.map V.str) = decide (s ∈ l)
  | [] => rfl
  | a :: l => by
    have ih := inV_str (s := s) (l := l)
    unfold inV at ih ⊢
    rw [List.map_cons, List.any_cons, ih]
    show ((a == s) || decide (s ∈ l)) = decide (s ∈ a :: l)
    by_cases h : s = a
    · rw [h]; simp
    · have h1 : (a == s) = false := beq_eq_false_iff_ne.mpr fun z => h z.symm
      rw [h1, Bool.false_or]
      exact dec_iff ⟨fun z => List.mem_cons_of_mem _ z, fun z => (List.mem_cons.mp z).elim (fun e => absurd e h) id⟩
theorem flat_str (l : List Str) : (l.map V.str).all flatV = true := by
  rw [List.all_eq_true]
  intro x hx
  obtain ⟨y, _, rfl⟩ := List.mem_map.mp hx
  rfl
theorem subL {K : PySem.W.Frag} {l : List Str} (F : Hp) (v : V) (h : (dLst K (l.map dS)).ok F v) : (dLst K ((l.map V.str).map dV)).ok F v := by
  obtain ⟨a, vs, h1, h2, h3⟩ := h
  refine ⟨a, vs, h1, h2, ?_⟩
  rw [(AllD.dS h3).1]
  exact allD_dV _
theorem subT {K : PySem.W.Frag} {l : List Str} (F : Hp) (v : V) (h : (dTup K (l.map dS)).ok F v) : (dTup K ((l.map V.str).map dV)).ok F v := by
  obtain ⟨a, vs, h1, h2, h3⟩ := h
  refine ⟨a, vs, h1, h2, ?_⟩
  rw [(AllD.dS h3).1]
  exact allD_dV _
theorem map_dI (l : List Int) : l.map dI = (l.map V.int).map dV := by rw [List.map_map]; rfl
theorem c_inLS {s : Str} {l : List Str} : CmpR G C .In O (dS s) (dLst G.K (l.map dS)) (decide (s ∈ l)) := by rw [← inV_str]; exact c_weak (c_inS rfl (flat_str l)) (fun _ _ h => h.1) subL
theorem c_ninLS {s : Str} {l : List Str} : CmpR G C .NotIn O (dS s) (dLst G.K (l.map dS)) (!decide (s ∈ l)) := by rw [← inV_str]; exact c_weak (c_ninS rfl (flat_str l)) (fun _ _ h => h.1) subL
theorem c_inTS {s : Str} {l : List Str} : CmpR G C .In O (dS s) (dTup G.K (l.map dS)) (decide (s ∈ l)) := by rw [← inV_str]; exact c_weak (c_inT rfl (flat_str l)) (fun _ _ h => h.1) subT
def hasSign (z s : Str) : Bool := decide (s ∈ signs z)
theorem mem_signs {z : Str} {c : Nat} : (⟨#[c]⟩ : Str) ∈ signs z ↔ c ∈ z.cps.toList := by
  unfold signs
  constructor
  · intro h
    obtain ⟨d, hd, e⟩ := List.mem_map.mp h
    have e2 : #[d] = #[c] := congrArg Str.cps e
    have e3 : d = c := by simpa using e2
    rw [← e3]; exact hd
  · intro h
    exact List.mem_map.mpr ⟨c, h, rfl⟩
theorem c_ninZ {s z y : Str} (hs : s ∈ signs y) : CmpR G C .NotIn O (dS s) (dS z) (!hasSign z s) := by
  obtain ⟨c, _, rfl⟩ := List.mem_map.mp hs
  exact c_is c_ninSign (by unfold hasSign; rw [dec_iff mem_signs.symm])
theorem sizeN : (sizeLine : Nat) = 16777216 := by rw [sizeLine_eq]
theorem e_globT {ds : List D} {a : Addr} (g : Glo C x) (hm : G.mg x = some (.ref a)) (h : ∀ F, (dTup G.K ds).ok F (.ref a)) : E G C (.Name x pos) Γ O (dTup G.K ds) := e_as (e_glob (v := .ref a) g hm rfl) fun F v hv => by
  have e : v = .ref a := hv
  rw [e]; exact h F
theorem ss_unp {tg : Expr} {Γ' : Fr} {is : List Nat} (h : E G C e Γ O d) (ht : TJ G C tg d Γ Γ' is) (hss : ∀ (env : Env), swapsWithSole [tg] e pos.line env = pure false) (hw : ∀ env, swappedStores [tg] e env = pure none) (h1 : ∀ env, (assignEach [tg] env).map (·.2) = [assign tg env]) (hr : SS G C ss Γ' O k o) : SS G C (.Assign [tg] e pos :: ss) Γ O k o :=
  ss_cons (t := fun X => tAsg (WE X e) (WG X tg)) (fun X c => ps_asg pe_can pg_can (hss X.env) (hw X.env) (h1 X.env)) fun X c W tk F σ H hh D m =>
    h.run X c F σ H hh _ fun F1 H1 v e1 h1 d1 => ht.run X c F1 O σ H1 v h1 d1 _ fun σ' h2 _ => hr.run X c W tk F1 σ' H1 h2 D (meet.mono e1 m)
end
end Kn
namespace Kn
open PySem PySem.Spec L2
theorem bt_len : bootBuiltins "len" = some (.builtin "len") := by decide +kernel
theorem bt_min : bootBuiltins "min" = some (.builtin "min") := by decide +kernel
theorem bt_max : bootBuiltins "max" = some (.builtin "max") := by decide +kernel
theorem bt_sorted : bootBuiltins "sorted" = some (.builtin "sorted") := by decide +kernel
theorem bt_sum : bootBuiltins "sum" = some (.builtin "sum") := by decide +kernel
theorem bt_isinstance : bootBuiltins "isinstance" = some (.builtin "isinstance") := by decide +kernel
theorem bt_int : bootBuiltins "int" = some (.type "int") := by decide +kernel
theorem bt_str : bootBuiltins "str" = some (.type "str") := by decide +kernel
theorem bt_bool : bootBuiltins "bool" = some (.type "bool") := by decide +kernel
theorem bt_list : bootBuiltins "list" = some (.type "list") := by decide +kernel
theorem bt_tuple : bootBuiltins "tuple" = some (.type "tuple") := by decide +kernel
theorem bt_dict : bootBuiltins "dict" = some (.type "dict") := by decide +kernel
def imin (i j : Int) : Int := if j < i then j else i
def imax (i j : Int) : Int := if j > i then j else i
def bi (k : Bool) : Int := if k then 1 else 0
inductive Ret (S R : Type) where
  | nx (s : S)
  | rt (r : R)
def Ret.out {S R : Type} : Ret S R → Out S R
  | .nx s => .nx s
  | .rt r => .rt r
def loopL {S α R : Type} (f : S → α → Ret S R) : List α → S → Ret S R
  | [], s => .nx s
  | x :: xs, s => match f s x with
    | .nx s' => loopL f xs s'
    | .rt r => .rt r
theorem loopL_out {S α R : Type} {f : S → α → Ret S R} : ∀ {xs : List α} {s : S}, forL (fun s x => (f s x).out) xs s = (loopL f xs s).out
  | [], _ => rfl
  | x :: xs, s => by
    show (match (f s x).out with
      | .nx s' => forL (fun s x => (f s x).out) xs s'
      | .rt r => .rt r
      | .ex e => .ex e) = _
    show _ = (match f s x with
      | .nx s' => loopL f xs s'
      | .rt r => .rt r : Ret S R).out
    cases f s x with
    | nx s' => exact loopL_out (xs := xs)
    | rt r => rfl
def lp {S R : Type} (o : Ret S R) (g : S → R) : R := match o with
  | .nx s => g s
  | .rt r => r
def Ret.bind {S S1 R : Type} (o : Ret S1 R) (g : S1 → Ret S R) : Ret S R := match o with
  | .nx s => g s
  | .rt r => .rt r
theorem Ret.out_nx {S R : Type} {o : Ret S R} {s : S} (h : o.out = .nx s) : o = .nx s := by
  cases o with
  | nx t => cases h; rfl
  | rt r => cases h
section
variable {G : Cfg} {C : Sc} {Γ : Fr} {O : Own} {P : Own → Prop} {S S1 R B : Type} {k : Ek S R} {o : Out S R} {e a b c it tg : Expr} {es : List Expr} {d da db : D} {ds : List D} {ss body ta tb : List Stmt} {pos p1 p2 p3 : Pos} {x : Str} {α : Type} {f : α → D} {is : List Nat}
theorem ss_loop [Calm C] {df : α → D} {xs : List α} {h : S1 → α → Ret S1 R} {s0 : S1} {g : S1 → R} (Γ1 : S1 → Fr) (Γ2 : S1 → α → Fr) (O1 : S1 → Own) (hi : EI G C tg it Γ O P (xs.map df)) (l0 : FrLe Γ (Γ1 s0)) (o0 : O = O1 s0) (hP : ∀ s, P (O1 s))
    (hg : ∀ s x, TJ G C tg (df x) (Γ1 s) (Γ2 s x) is)
    (hb : ∀ s x pre post, xs = pre ++ x :: post → loopL h pre s0 = .nx s → SS G C body (Γ2 s x) (O1 s) (k.to fun s => SD.of (Γ1 s) (O1 s)) (h s x).out)
    (hr : ∀ s, loopL h xs s0 = .nx s → SS G C ss (Γ1 s) (O1 s) k (.rt (g s))) (hs : ∀ env x, foldedSetIterable it env x = pure x) : SS G C (.For tg it body [] pos :: ss) Γ O k (.rt (lp (loopL h xs s0) g)) := by
  have q := ss_for (ss := ss) (pos := pos) (k := k) (g := fun s => .rt (g s)) (f := fun s x => (h s x).out) Γ1 Γ2 O1 hi l0 o0 hP hg (fun s x pre post e z => hb s x pre post e (Ret.out_nx (by rw [← loopL_out]; exact z))) (fun s z => hr s (Ret.out_nx (by rw [← loopL_out]; exact z))) hs
  rw [loopL_out] at q
  revert q
  cases loopL h xs s0 with
  | nx s => exact fun q => q
  | rt r => exact fun q => q
theorem e_globI {i : Int} (g : Glo C x) (hm : ∃ t, G.mg x = some (.int i t)) : E G C (.Name x pos) Γ O (dI i) := by
  obtain ⟨t, hm⟩ := hm
  exact e_glob g hm ⟨t, rfl⟩
theorem e_globS {i : Str} (g : Glo C x) (hm : ∃ t, G.mg x = some (.str i t)) (ho : okSb i = true := by decide +kernel) : E G C (.Name x pos) Γ O (dS i) := by
  obtain ⟨t, hm⟩ := hm
  exact e_as (e_glob (v := .str i) g hm ⟨t, rfl⟩) fun F v hv => ⟨hv, okS_of ho⟩
theorem e_globTS {l : List Str} (g : Glo C x) (hm : ∃ p, G.mg x = some (.ref p) ∧ ∀ H, SqT G.K H p (l.map V.str)) (ho : l.all okSb = true := by decide +kernel) : E G C (.Name x pos) Γ O (dTup G.K (l.map dS)) := by
  obtain ⟨p, hm, hs⟩ := hm
  exact e_globT g hm fun F => ⟨p, _, rfl, hs F, allD_dS l fun s h => okS_of (List.all_eq_true.mp ho s h)⟩
theorem k_lenLo {xs : List α} : CalR G C (.builtin "len") O [dLst G.K (xs.map f)] (dI xs.length) := by
  have h := k_lenL (G := G) (C := C) (O := O) (ds := xs.map f)
  rw [List.length_map] at h
  exact h
theorem k_lenVt {xs : List α} : CalR G C (.builtin "len") O [dTup G.K (xs.map f)] (dI xs.length) := by
  have h := k_lenT (G := G) (C := C) (O := O) (ds := xs.map f)
  rw [List.length_map] at h
  exact h
theorem k_min2 [Calm C] {i j : Int} : CalR G C (.builtin "min") O [dI i, dI j] (dI (imin i j)) := k_min
theorem k_max2 [Calm C] {i j : Int} : CalR G C (.builtin "max") O [dI i, dI j] (dI (imax i j)) := k_max
theorem k_intB2 {k : Bool} : CalR G C (.type "int") O [dB k] (dI (bi k)) := k_intB
def enumF {α : Type} : Nat → List α → List (Int × α)
  | _, [] => []
  | i, x :: xs => ((i : Int), x) :: enumF (i + 1) xs
def enumL {α : Type} (xs : List α) : List (Int × α) := enumF 0 xs
theorem enumF_len : ∀ {xs : List α} {i : Nat}, (enumF i xs).length = xs.length
  | [], _ => rfl
  | _ :: xs, i => by show (enumF (i + 1) xs).length + 1 = _; rw [enumF_len (xs := xs)]; rfl
theorem enumF_at : ∀ {xs : List α} {i j : Nat}, (enumF i xs)[j]? = (xs[j]?).map fun x => (((i + j : Nat) : Int), x)
  | [], _, _ => rfl
  | x :: xs, i, 0 => rfl
  | x :: xs, i, j + 1 => by
    show (enumF (i + 1) xs)[j]? = _
    rw [enumF_at (xs := xs), List.getElem?_cons_succ]
    have e : i + 1 + j = i + (j + 1) := by omega
    rw [e]
theorem mem_enum {xs : List α} {p : Int × α} (h : p ∈ enumL xs) : 0 ≤ p.1 ∧ p.1 < xs.length ∧ p.2 ∈ xs := by
  obtain ⟨j, hj, e⟩ := List.mem_iff_getElem.mp h
  have e2 : (enumL xs)[j]? = some p := by rw [List.getElem?_eq_getElem hj, e]
  unfold enumL at e2
  rw [enumF_at] at e2
  cases q : xs[j]? with
  | none => rw [q] at e2; cases e2
  | some x =>
    rw [q] at e2
    cases e2
    have hl := (List.getElem?_eq_some_iff.mp q).1
    exact ⟨by show (0 : Int) ≤ ((0 + j : Nat) : Int); omega, by show ((0 + j : Nat) : Int) < _; omega, List.mem_of_getElem? q⟩
theorem ei_enum {xs : List α} {elts : List Expr} {kk : Nat} (g : Glo C "enumerate") (hm : G.mg "enumerate" = none) (h : E G C a Γ O (dLst G.K (xs.map f))) (hs : ∀ env, starEach [a] env = [(false, eval a env)]) : EI G C (.Tuple elts kk p2) (.Call (.Name "enumerate" p1) [a] [] pos) Γ O anyO ((enumL xs).map (dT2 G.K dI f)) := .mk fun X c F σ H hh R q =>
  wi_of (pi_enum (c.gl g) (by rw [c.mg]; exact hm) (pa_cons pe_can pa_nil (by rw [hs]; rfl)) (hs X.env)) (h.run X c F σ H hh _ fun F1 H1 v e1 h1 d1 => by
    obtain ⟨p, vs, rfl, hl, hal⟩ := d1
    have hs' : ∀ {F' O' H'}, Gw F1 F' → HoldO F' O' H' → SqL X.K H' p vs := fun e h => by rw [c.K]; exact gw_l (e.trans h.ex) hl.sq
    have hlen := AllD.length hal
    rw [List.length_map] at hlen
    refine ⟨p, vs, rfl, hs' (Gw.refl _) h1.ho, q _ F1 H1 e1 h1 ⟨fun i d hd F O H _ e h => ?_, fun F O H _ e h => ?_⟩⟩
    · unfold enumL at hd
      rw [List.getElem?_map, enumF_at] at hd
      cases hx : xs[i]? with
      | none => rw [hx] at hd; cases hd
      | some w =>
        rw [hx] at hd
        cases hd
        obtain ⟨v, hv, dv⟩ := AllD.get (d := f w) hal (by rw [List.getElem?_map, hx]; rfl)
        refine ⟨⟨vs, v, hs' e h, hv⟩, fun y H' hy => ?_⟩
        obtain ⟨T, z, rfl, hT, rfl, hz⟩ := hy
        have hz' := hz vs (hs' e h)
        rw [hv] at hz'
        cases hz'
        obtain ⟨h2, e2⟩ := h.laid (o := .tup [.int (i : Nat), v]) hT
        refine ⟨_, e2, h2, T, [.int (i : Nat), v], rfl, .inl (.inl upd_same), ?_, (f w).mono (e.trans e2) dv, trivial⟩
        show V.int (i : Nat) = V.int ((0 + i : Nat) : Int)
        rw [Nat.zero_add]
    · refine ⟨vs, hs' e h, ?_⟩
      rw [List.length_map]
      unfold enumL
      rw [enumF_len, hlen]
      exact Nat.le_refl _)
end
end Kn
namespace Kn
open PySem PySem.Spec L2
theorem slen_app {a b : Str} : (a ++ b).length = a.length + b.length := by
  show (a.cps ++ b.cps).size = a.cps.size + b.cps.size
  exact Array.size_append
theorem signAt_len {z : Str} {i : Int} : (signAt z i).length = 1 := rfl
theorem signs_len {z : Str} : (signs z).length = z.length := by
  unfold signs
  rw [List.length_map, Array.length_toList]
  rfl
theorem enumL_len {α : Type} {xs : List α} : (enumL xs).length = xs.length := enumF_len
theorem cut_len {α : Type} {xs : List α} {i j : Option Int} : (cut xs i j).length ≤ xs.length := by
  unfold cut
  rw [List.length_take, List.length_drop]
  omega
theorem foldl_meas {S α : Type} {m : S → Nat} {c : Nat} {f : S → α → S} (h : ∀ s x, m (f s x) ≤ m s + c) : ∀ {xs : List α} {s0 : S}, m (xs.foldl f s0) ≤ m s0 + c * xs.length
  | [], s0 => by show m s0 ≤ m s0 + c * 0; omega
  | x :: xs, s0 => by
    have ih := foldl_meas h (xs := xs) (s0 := f s0 x)
    have a := h s0 x
    show m (xs.foldl f (f s0 x)) ≤ m s0 + c * (xs.length + 1)
    rw [Nat.mul_add, Nat.mul_one]
    omega
theorem foldl_measE {S α : Type} {m : S → Nat} {c : Nat} {f : S → α → S} (h : ∀ s x, m (f s x) = m s + c) : ∀ {xs : List α} {s0 : S}, m (xs.foldl f s0) = m s0 + c * xs.length
  | [], s0 => by show m s0 = m s0 + c * 0; omega
  | x :: xs, s0 => by
    have ih := foldl_measE h (xs := xs) (s0 := f s0 x)
    have a := h s0 x
    show m (xs.foldl f (f s0 x)) = m s0 + c * (xs.length + 1)
    rw [Nat.mul_add, Nat.mul_one]
    omega
theorem inR_len {n m : Nat} {i : Int} (h : n = m) (h2 : -(m : Int) ≤ i ∧ i < m) : inR n i := by rw [h]; exact h2
end Kn
namespace Kn
open PySem PySem.Spec L2
inductive Va where
  | non
  | bl (b : Bool)
  | int (i : Int)
  | str (s : Str)
  | lst (xs : List Va)
  | tup (xs : List Va)
  | dic
instance : Inhabited Va := ⟨.non⟩
def dEmp : D := ⟨fun F v => ∃ a, v = .ref a ∧ F a = some (.dK []), fun e ⟨a, h1, h2⟩ => ⟨a, h1, e a _ h2⟩⟩
mutual
def dA (K : PySem.W.Frag) : Va → D
  | .non => dN
  | .bl b => dB b
  | .int i => dI i
  | .str s => dS s
  | .lst xs => dLst K (dAs K xs)
  | .tup xs => dTup K (dAs K xs)
  | .dic => dEmp
def dAs (K : PySem.W.Frag) : List Va → List D
  | [] => []
  | x :: xs => dA K x :: dAs K xs
end
theorem dAs_map {K : PySem.W.Frag} : ∀ xs : List Va, dAs K xs = xs.map (dA K)
  | [] => by simp only [dAs, List.map_nil]
  | x :: xs => by simp only [dAs, List.map_cons, dAs_map xs]
theorem dA_int {K : PySem.W.Frag} (i : Int) : dA K (.int i) = dI i := by simp only [dA]
theorem dA_str {K : PySem.W.Frag} (i : Str) : dA K (.str i) = dS i := by simp only [dA]
theorem dA_bl {K : PySem.W.Frag} (i : Bool) : dA K (.bl i) = dB i := by simp only [dA]
theorem dA_non {K : PySem.W.Frag} : dA K .non = dN := by simp only [dA]
theorem dA_dic {K : PySem.W.Frag} : dA K .dic = dEmp := by simp only [dA]
theorem dA_lst {K : PySem.W.Frag} (xs : List Va) : dA K (.lst xs) = dLst K (xs.map (dA K)) := by simp only [dA, dAs_map]
theorem dA_tup {K : PySem.W.Frag} (xs : List Va) : dA K (.tup xs) = dTup K (xs.map (dA K)) := by simp only [dA, dAs_map]
def Va.kind : Va → String
  | .non => "NoneType"
  | .bl _ => "bool"
  | .int _ => "int"
  | .str _ => "str"
  | .lst _ => "list"
  | .tup _ => "tuple"
  | .dic => "dict"
def isA (n : String) (x : Va) : Bool := decide (x.kind = n) || (decide (n = "int") && decide (x.kind = "bool"))
def Va.asI : Va → Int
  | .int i => i
  | _ => 0
def Va.asS : Va → Str
  | .str i => i
  | _ => ""
def Va.asT : Va → List Va
  | .tup i => i
  | _ => []
theorem isy_str {K : PySem.W.Frag} {x : Va} (h : isA "str" x = true) : dA K x = dS x.asS := by
  cases x with
  | str s => exact dA_str s
  | _ => simp [isA, Va.kind] at h
theorem isy_tup {K : PySem.W.Frag} {x : Va} (h : isA "tuple" x = true) : dA K x = dTup K (x.asT.map (dA K)) := by
  cases x with
  | tup s => exact dA_tup s
  | _ => simp [isA, Va.kind] at h
theorem isy_int {K : PySem.W.Frag} {x : Va} (h : isA "int" x = true) (h2 : isA "bool" x = false) : dA K x = dI x.asI := by
  cases x with
  | int s => exact dA_int s
  | _ => simp [isA, Va.kind] at h h2
theorem ty_emp {K : PySem.W.Frag} : IsTy K dEmp "dict" := fun F H v ex ⟨a, h1, h2⟩ => by
  subst h1
  exact .base (.dK (ex _ _ h2))
theorem ty_any {K : PySem.W.Frag} (x : Va) : IsTy K (dA K x) x.kind := by
  cases x with
  | non => rw [dA_non]; exact ty_none
  | bl b => rw [dA_bl]; exact ty_bool
  | int b => rw [dA_int]; exact ty_int
  | str b => rw [dA_str]; exact ty_str
  | lst b => rw [dA_lst]; exact ty_lst
  | tup b => rw [dA_tup]; exact ty_tup
  | dic => rw [dA_dic]; exact ty_emp
theorem notT {b : Bool} (h : (!b) = true) : b = false := by revert h; cases b <;> simp
theorem notF {b : Bool} (h : (!b) = false) : b = true := by revert h; cases b <;> simp
theorem andL {a b : Bool} (h : (a && b) = true) : a = true := (Bool.and_eq_true_iff.mp h).1
theorem andR {a b : Bool} (h : (a && b) = true) : b = true := (Bool.and_eq_true_iff.mp h).2
theorem orL {a b : Bool} (h : (a || b) = false) : a = false := (Bool.or_eq_false_iff.mp h).1
theorem orR {a b : Bool} (h : (a || b) = false) : b = false := (Bool.or_eq_false_iff.mp h).2
def kinds : List String := ["NoneType", "bool", "int", "str", "list", "tuple", "dict"]
theorem kitB_any (x : Va) {n : String} (h : (kinds.all fun k => decide (kitB k n = some (decide (k = n) || (decide (n = "int") && decide (k = "bool"))))) = true) : kitB x.kind n = some (isA n x) := by
  rw [List.all_eq_true] at h
  have hm : x.kind ∈ kinds := by cases x <;> simp [Va.kind, kinds]
  exact of_decide_eq_true (h _ hm)
section
variable {G : Cfg} {C : Sc} {Γ : Fr} {O : Own} {e a b : Expr} {es : List Expr} {d da db : D} {ds : List D} {pos p1 p2 p3 : Pos} {x : Str} {α β γ δ : Type} {f : α → D} {g : β → D} {h : γ → D} {i : δ → D}
theorem k_isA {n : String} {x : Va} (hb : (kinds.all fun k => decide (kitB k n = some (decide (k = n) || (decide (n = "int") && decide (k = "bool"))))) = true) : CalR G C (.builtin "isinstance") O [dA G.K x, dV (.ty n)] (dB (isA n x)) := k_isi (ty_any x) (kitB_any x hb)
theorem kit_int : (kinds.all fun k => decide (kitB k "int" = some (decide (k = "int") || (decide ("int" = "int") && decide (k = "bool"))))) = true := by decide +kernel
theorem kit_str : (kinds.all fun k => decide (kitB k "str" = some (decide (k = "str") || (decide ("str" = "int") && decide (k = "bool"))))) = true := by decide +kernel
theorem kit_bool : (kinds.all fun k => decide (kitB k "bool" = some (decide (k = "bool") || (decide ("bool" = "int") && decide (k = "bool"))))) = true := by decide +kernel
theorem kit_tuple : (kinds.all fun k => decide (kitB k "tuple" = some (decide (k = "tuple") || (decide ("tuple" = "int") && decide (k = "bool"))))) = true := by decide +kernel
theorem any_tup {p : α → Va} (hp : ∀ x, f x = dA G.K (p x)) (xs : List α) : dTup G.K (xs.map f) = dA G.K (.tup (xs.map p)) := by
  rw [dA_tup, List.map_map]
  congr 1
  exact List.map_congr_left fun x _ => hp x
theorem any_t3 {p : α → Va} {q : β → Va} {r : γ → Va} (hp : ∀ x, f x = dA G.K (p x)) (hq : ∀ x, g x = dA G.K (q x)) (hr : ∀ x, h x = dA G.K (r x)) (x : α × β × γ) : dT3 G.K f g h x = dA G.K (.tup [p x.1, q x.2.1, r x.2.2]) := by
  rw [dA_tup]
  simp only [List.map_cons, List.map_nil, dT3, hp, hq, hr]
theorem any_t4 {p : α → Va} {q : β → Va} {r : γ → Va} {s : δ → Va} (hp : ∀ x, f x = dA G.K (p x)) (hq : ∀ x, g x = dA G.K (q x)) (hr : ∀ x, h x = dA G.K (r x)) (hs : ∀ x, i x = dA G.K (s x)) (x : α × β × γ × δ) : dT4 G.K f g h i x = dA G.K (.tup [p x.1, q x.2.1, r x.2.2.1, s x.2.2.2]) := by
  rw [dA_tup]
  simp only [List.map_cons, List.map_nil, dT4, hp, hq, hr, hs]
end
end Kn
namespace Kn
open PySem PySem.Spec L2
structure Dat {α : Type} [DecidableEq α] (K : PySem.W.Frag) (f : α → D) (p : α → PyData) (n : Nat) : Prop where
  ok : ∀ (a : α) (F H : Hp) (v : V), Gw F H → (f a).ok F v → Dp K H v (p a)
  lay : ∀ (a : α) (F : Hp) (v : V), (f a).ok F v → (p a).canLay0 = true
  dep : ∀ a, (p a).depth ≤ n
  eq : ∀ a b, PyData.eqv (p a) (p b) = decide (a = b)
theorem beq_dec {α : Type} [DecidableEq α] [BEq α] [LawfulBEq α] (a b : α) : (a == b) = decide (a = b) := by
  by_cases h : a = b
  · subst h; simp
  · simp [h]
theorem dat_int {K : PySem.W.Frag} : Dat K dI PyData.int 0 := ⟨fun a F H v _ h => (show v = .int a from h) ▸ .int a, fun _ _ _ _ => by simp only [PyData.canLay0], fun _ => by simp only [PyData.depth]; omega, fun a b => by simp only [PyData.eqv]; exact beq_dec a b⟩
theorem dat_str {K : PySem.W.Frag} : Dat K dS PyData.str 0 := ⟨fun a F H v _ h => h.1 ▸ .str a, fun _ _ _ h => by simp only [PyData.canLay0]; exact h.2.1, fun _ => by simp only [PyData.depth]; omega, fun a b => by simp only [PyData.eqv]; exact beq_dec a b⟩
section
variable {α β γ δ : Type} [DecidableEq α] [DecidableEq β] [DecidableEq γ] [DecidableEq δ] {K : PySem.W.Frag} {f : α → D} {g : β → D} {h : γ → D} {i : δ → D} {p : α → PyData} {q : β → PyData} {r : γ → PyData} {s : δ → PyData} {n m k l : Nat}
theorem Dat.all (t : Dat K f p n) {F H : Hp} (e : Gw F H) : ∀ {xs : List α} {vs : List V}, AllD F (xs.map f) vs → DpAll K H vs (xs.map p)
  | [], [], _ => .nil
  | _ :: _, _ :: _, h => .cons (t.ok _ F H _ e h.1) (Dat.all t e h.2)
  | [], _ :: _, h => h.elim
  | _ :: _, [], h => h.elim
theorem Dat.lays (t : Dat K f p n) {F : Hp} : ∀ {xs : List α} {vs : List V}, AllD F (xs.map f) vs → PyData.canLayAll0 (xs.map p) = true
  | [], [], _ => by simp only [List.map_nil, PyData.canLayAll0]
  | x :: xs, v :: vs, h => by simp only [List.map_cons, PyData.canLayAll0, t.lay x F v h.1, Dat.lays t h.2, Bool.and_self]
  | [], _ :: _, h => h.elim
  | _ :: _, [], h => h.elim
theorem Dat.deps (t : Dat K f p n) : ∀ xs : List α, PyData.depthAll (xs.map p) ≤ n
  | [] => by simp only [List.map_nil, PyData.depthAll]; omega
  | x :: xs => by
    have h1 := t.dep x
    have h2 := Dat.deps t xs
    simp only [List.map_cons, PyData.depthAll]
    omega
theorem Dat.eqs (t : Dat K f p n) : ∀ xs ys : List α, PyData.eqvAll (xs.map p) (ys.map p) = decide (xs = ys)
  | [], [] => by simp only [List.map_nil, PyData.eqvAll, decide_true]
  | [], _ :: _ => by simp only [List.map_nil, List.map_cons, PyData.eqvAll]; rfl
  | _ :: _, [] => by simp only [List.map_nil, List.map_cons, PyData.eqvAll]; rfl
  | x :: xs, y :: ys => by
    simp only [List.map_cons, PyData.eqvAll, t.eq x y, Dat.eqs t xs ys]
    by_cases h1 : x = y
    · subst h1
      by_cases h2 : xs = ys
      · subst h2; simp
      · simp [h2]
    · simp [h1]
theorem dat_lst (t : Dat K f p n) : Dat K (dLo K f) (fun xs => PyData.list (xs.map p)) (n + 1) := by
  refine ⟨fun a F H v e h => ?_, fun a F v h => by obtain ⟨_, _, _, _, h3⟩ := h; simp only [PyData.canLay0]; exact t.lays h3, fun a => by have := t.deps a; simp only [PyData.depth]; omega, fun a b => by simp only [PyData.eqv]; exact t.eqs a b⟩
  obtain ⟨x, vs, rfl, h2, h3⟩ := h
  exact .lst (gw_l e h2.sq) (t.all e h3)
theorem dat_vtup (t : Dat K f p n) : Dat K (dVt K f) (fun xs => PyData.tuple (xs.map p)) (n + 1) := by
  refine ⟨fun a F H v e h => ?_, fun a F v h => by obtain ⟨_, _, _, _, h3⟩ := h; simp only [PyData.canLay0]; exact t.lays h3, fun a => by have := t.deps a; simp only [PyData.depth]; omega, fun a b => by simp only [PyData.eqv]; exact t.eqs a b⟩
  obtain ⟨x, vs, rfl, h2, h3⟩ := h
  exact .tup (gw_t e h2) (t.all e h3)
theorem dat_t2 (t : Dat K f p n) (u : Dat K g q n) : Dat K (dT2 K f g) (fun x => PyData.tuple [p x.1, q x.2]) (n + 1) := by
  refine ⟨fun a F H v e h => ?_, fun a F v h => ?_, fun a => by have h1 := t.dep a.1; have h2 := u.dep a.2; simp only [PyData.depth, PyData.depthAll]; omega, fun a b => ?_⟩
  · obtain ⟨x, vs, rfl, h2, h3⟩ := h
    match vs, h3 with
    | [v1, v2], h3 => exact .tup (gw_t e h2) (.cons (t.ok _ F H _ e h3.1) (.cons (u.ok _ F H _ e h3.2.1) .nil))
    | [], h3 => exact h3.elim
    | [_], h3 => exact h3.2.elim
    | _ :: _ :: _ :: _, h3 => exact h3.2.2.elim
  · obtain ⟨_, vs, _, _, h3⟩ := h
    match vs, h3 with
    | [v1, v2], h3 => simp only [PyData.canLay0, PyData.canLayAll0, t.lay _ F _ h3.1, u.lay _ F _ h3.2.1, Bool.and_self]
    | [], h3 => exact h3.elim
    | [_], h3 => exact h3.2.elim
    | _ :: _ :: _ :: _, h3 => exact h3.2.2.elim
  · simp only [PyData.eqv, PyData.eqvAll, t.eq, u.eq, Bool.and_true]
    obtain ⟨a1, a2⟩ := a
    obtain ⟨b1, b2⟩ := b
    rw [← Bool.decide_and]
    exact decide_eq_decide.mpr (by simp)
theorem dat_t3 (t : Dat K f p n) (u : Dat K g q n) (w : Dat K h r n) : Dat K (dT3 K f g h) (fun x => PyData.tuple [p x.1, q x.2.1, r x.2.2]) (n + 1) := by
  refine ⟨fun a F H v e h => ?_, fun a F v h => ?_, fun a => by have h1 := t.dep a.1; have h2 := u.dep a.2.1; have h3 := w.dep a.2.2; simp only [PyData.depth, PyData.depthAll]; omega, fun a b => ?_⟩
  · obtain ⟨x, vs, rfl, h2, h3⟩ := h
    match vs, h3 with
    | [v1, v2, v3], h3 => exact .tup (gw_t e h2) (.cons (t.ok _ F H _ e h3.1) (.cons (u.ok _ F H _ e h3.2.1) (.cons (w.ok _ F H _ e h3.2.2.1) .nil)))
    | [], h3 => exact h3.elim
    | [_], h3 => exact h3.2.elim
    | [_, _], h3 => exact h3.2.2.elim
    | _ :: _ :: _ :: _ :: _, h3 => exact h3.2.2.2.elim
  · obtain ⟨_, vs, _, _, h3⟩ := h
    match vs, h3 with
    | [v1, v2, v3], h3 => simp only [PyData.canLay0, PyData.canLayAll0, t.lay _ F _ h3.1, u.lay _ F _ h3.2.1, w.lay _ F _ h3.2.2.1, Bool.and_self]
    | [], h3 => exact h3.elim
    | [_], h3 => exact h3.2.elim
    | [_, _], h3 => exact h3.2.2.elim
    | _ :: _ :: _ :: _ :: _, h3 => exact h3.2.2.2.elim
  · simp only [PyData.eqv, PyData.eqvAll, t.eq, u.eq, w.eq, Bool.and_true]
    obtain ⟨a1, a2, a3⟩ := a
    obtain ⟨b1, b2, b3⟩ := b
    rw [← Bool.decide_and, ← Bool.decide_and]
    exact decide_eq_decide.mpr (by simp)
theorem Dat.up (t : Dat K f p n) (hm : n ≤ m) : Dat K f p m := ⟨t.ok, t.lay, fun a => Nat.le_trans (t.dep a) hm, t.eq⟩
theorem Dat.shaped (t : Dat K f p n) (hn : n ≤ 64) (a : α) {F : Hp} {v : V} (h : (f a).ok F v) : SeqAt.shaped (p a) = true := by
  have h1 := t.lay a F v h
  have h2 := t.dep a
  show (PyData.canLay0 (p a) && decide (PyData.depth (p a) ≤ 64)) = true
  rw [h1, decide_eq_true (by omega)]
  rfl
end
section
variable {G : Cfg} {C : Sc} {Γ : Fr} {O : Own} {α : Type} [DecidableEq α] {f : α → D} {p : α → PyData} {n : Nat} {a b : α}
theorem c_eqDat (t : Dat G.K f p n) (hn : n ≤ 64) : CmpR G C .Eq O (f a) (f b) (decide (a = b)) := ⟨fun X c => ⟨_, op_eqD c.units, fun F H v u hh h1 h2 Q q => by
  refine ⟨p a, p b, by rw [c.K]; exact t.ok a F H v hh.ex h1, by rw [c.K]; exact t.ok b F H u hh.ex h2, t.shaped hn a h1, t.shaped hn b h2, ?_⟩
  rw [t.eq]
  exact q F H _ (Gw.refl F) hh rfl⟩⟩
theorem c_neDat (t : Dat G.K f p n) (hn : n ≤ 64) : CmpR G C .NotEq O (f a) (f b) (!decide (a = b)) := ⟨fun X c => ⟨_, op_neD c.units, fun F H v u hh h1 h2 Q q => by
  refine ⟨p a, p b, by rw [c.K]; exact t.ok a F H v hh.ex h1, by rw [c.K]; exact t.ok b F H u hh.ex h2, t.shaped hn a h1, t.shaped hn b h2, ?_⟩
  rw [t.eq]
  exact q F H _ (Gw.refl F) hh rfl⟩⟩
theorem Dat.any (t : Dat G.K f p n) (a : α) : ∀ xs : List α, ((xs.map p).any fun z => PyData.eqv z (p a)) = decide (a ∈ xs)
  | [] => by simp
  | y :: ys => by
    rw [List.map_cons, List.any_cons, t.eq, Dat.any t a ys, ← Bool.decide_or]
    exact decide_eq_decide.mpr ⟨fun h => List.mem_cons.mpr (h.imp Eq.symm id), fun h => (List.mem_cons.mp h).imp Eq.symm id⟩
theorem dat_t4 {α β γ δ : Type} [DecidableEq α] [DecidableEq β] [DecidableEq γ] [DecidableEq δ] {K : PySem.W.Frag} {f : α → D} {g : β → D} {h : γ → D} {i : δ → D} {p : α → PyData} {q : β → PyData} {r : γ → PyData} {s : δ → PyData} {n : Nat} (t : Dat K f p n) (u : Dat K g q n) (w : Dat K h r n) (z : Dat K i s n) : Dat K (dT4 K f g h i) (fun x => PyData.tuple [p x.1, q x.2.1, r x.2.2.1, s x.2.2.2]) (n + 1) := by
  have four : ∀ {F : Hp} {d1 d2 d3 d4 : D} {vs : List V}, AllD F [d1, d2, d3, d4] vs → ∃ v1 v2 v3 v4, vs = [v1, v2, v3, v4] ∧ d1.ok F v1 ∧ d2.ok F v2 ∧ d3.ok F v3 ∧ d4.ok F v4 := by
    intro F d1 d2 d3 d4 vs h
    match vs, h with
    | [v1, v2, v3, v4], h => exact ⟨v1, v2, v3, v4, rfl, h.1, h.2.1, h.2.2.1, h.2.2.2.1⟩
    | [], h => exact h.elim
    | [_], h => exact h.2.elim
    | [_, _], h => exact h.2.2.elim
    | [_, _, _], h => exact h.2.2.2.elim
    | _ :: _ :: _ :: _ :: _ :: _, h => exact h.2.2.2.2.elim
  refine ⟨fun a F H v e h => ?_, fun a F v h => ?_, fun a => by have h1 := t.dep a.1; have h2 := u.dep a.2.1; have h3 := w.dep a.2.2.1; have h4 := z.dep a.2.2.2; simp only [PyData.depth, PyData.depthAll]; omega, fun a b => ?_⟩
  · obtain ⟨x, vs, rfl, h2, h3⟩ := h
    obtain ⟨v1, v2, v3, v4, rfl, q1, q2, q3, q4⟩ := four h3
    exact .tup (gw_t e h2) (.cons (t.ok _ F H _ e q1) (.cons (u.ok _ F H _ e q2) (.cons (w.ok _ F H _ e q3) (.cons (z.ok _ F H _ e q4) .nil))))
  · obtain ⟨x, vs, rfl, h2, h3⟩ := h
    obtain ⟨v1, v2, v3, v4, rfl, q1, q2, q3, q4⟩ := four h3
    simp only [PyData.canLay0, PyData.canLayAll0, t.lay _ F _ q1, u.lay _ F _ q2, w.lay _ F _ q3, z.lay _ F _ q4, Bool.and_self]
  · simp only [PyData.eqv, PyData.eqvAll, t.eq, u.eq, w.eq, z.eq, Bool.and_true]
    obtain ⟨a1, a2, a3, a4⟩ := a
    obtain ⟨b1, b2, b3, b4⟩ := b
    rw [← Bool.decide_and, ← Bool.decide_and, ← Bool.decide_and]
    exact decide_eq_decide.mpr (by simp)
end
end Kn
namespace Kn
open PySem PySem.Spec L2
abbrev AlM : Type := He.AlD × Bool
structure SaysM (fa : List He.Fa) (fn : List He.DefD) (ex : PySem.W.Frag → Bool) (K : PySem.W.Frag) : Prop where
  d : He.SaysD fa fn K
  m : ex K = true
theorem tab_str {K : PySem.W.Frag} {x : Str} {l : List Str} (h : He.tupB K x (l.map He.Dv.str) = true) (H : Hp) : SqT K H (He.ga K x) (l.map V.str) := by
  have a := He.tupB_ok h H
  rw [List.map_map] at a
  exact a
theorem def_of {K : PySem.W.Frag} {P : Program} {w : World} {mg : Str → Option Value} {base h : Heap} {fa : List He.Fa} {fn : List He.DefD} (X : K.In h) (Gm : h.Ns mainGlobals mg) (c : He.SaysD fa fn K) {i j : Nat} {x : Str} {st : Stmt} (hd : fn[i]? = some ⟨(x, none), x, x, defArgs st, defBody st, defScope st, [], []⟩) (hf : fa[j]? = some (.glo x)) : Def ⟨P, w, K, mg, base⟩ x st := by
  obtain ⟨fd, F⟩ := c.def_ i hd
  exact ⟨He.fAd K (x, none), fd, F, He.glo_ok X Gm (c.fact j hf)⟩
end Kn
namespace Kn
open PySem PySem.Spec L2
structure ClsAt (G : Cfg) (x : Str) (C : Addr) : Prop where
  mg : G.mg x = some (.ref C)
  cl : Cls G.K C
theorem ClsAt.same {G : Cfg} {x : Str} {C C' : Addr} (a : G.mg x = some (.ref C)) (b : G.mg x = some (.ref C')) : C = C' := by
  have e := a.symm.trans b
  cases e
  rfl
def NoAt (G : Cfg) (x f : Str) : Prop := ∃ C, G.mg x = some (.ref C) ∧ NoAttr G.K C f
def dIns (G : Cfg) (x : Str) (ns : List Str) (ds : List D) : D := ⟨fun F v => ∃ a C dx vs, v = .ref a ∧ ClsAt G x C ∧ F a = some (.ins C dx (ns.zip vs)) ∧ ds.length = ns.length ∧ AllD F ds vs, fun e ⟨a, C, dx, vs, h1, h2, h3, h4, h5⟩ => ⟨a, C, dx, vs, h1, h2, e a _ h3, h4, AllD.mono e h5⟩⟩
def oIns (G : Cfg) (x : Str) (ns : List Str) (ds : List D) : OD := ⟨fun F o => ∃ C dx vs, o = .ins C dx (ns.zip vs) ∧ ClsAt G x C ∧ ds.length = ns.length ∧ AllD F ds vs, fun e ⟨C, dx, vs, h1, h2, h3, h4⟩ => ⟨C, dx, vs, h1, h2, h3, AllD.mono e h4⟩⟩
def RK.unit (O : Own) : RK := ⟨fun F v H => v = .non ∧ ∃ F', Gw F F' ∧ HoldO F' O H, fun e ⟨h, F', e2, h2⟩ => ⟨h, F', e.trans e2, h2⟩, noXo, fun _ z => z⟩
theorem zip_lookup : ∀ {ns : List Str} {vs : List V} {i : Nat} {f : Str} {v : V}, ns.Nodup → ns[i]? = some f → vs[i]? = some v → (ns.zip vs).lookup f = some v
  | [], _, i, f, v, _, h, _ => by simp at h
  | _ :: _, [], i, f, v, _, _, h => by simp at h
  | n :: ns, u :: vs, 0, f, v, _, h1, h2 => by
    simp at h1 h2
    subst h1 h2
    simp [List.lookup]
  | n :: ns, u :: vs, i + 1, f, v, hn, h1, h2 => by
    obtain ⟨h3, h4⟩ := List.nodup_cons.mp hn
    have h1' : ns[i]? = some f := by simpa using h1
    have hne : (f == n) = false := beq_eq_false_iff_ne.mpr fun e => h3 (e ▸ List.mem_of_getElem? h1')
    rw [List.zip_cons_cons]
    show (match f == n with | true => some u | false => (ns.zip vs).lookup f) = _
    rw [hne]
    exact zip_lookup h4 h1' (by simpa using h2)
theorem zip_none : ∀ {ns : List Str} {vs : List V} {f : Str}, ns.contains f = false → (ns.zip vs).lookup f = none
  | [], _, f, _ => by simp
  | _ :: _, [], f, _ => by simp
  | n :: ns, u :: vs, f, h => by
    rw [List.contains_cons, Bool.or_eq_false_iff] at h
    rw [List.zip_cons_cons]
    show (match f == n with | true => some u | false => (ns.zip vs).lookup f) = _
    rw [h.1]
    exact zip_none h.2
theorem zip_put : ∀ {ns : List Str} {vs : List V} {f : Str} {y : V}, ns.contains f = false → vs.length = ns.length → putF f y (ns.zip vs) = (ns ++ [f]).zip (vs ++ [y])
  | [], [], f, y, _, _ => rfl
  | [], _ :: _, f, y, _, h => by simp at h
  | _ :: _, [], f, y, _, h => by simp at h
  | n :: ns, u :: vs, f, y, h, hl => by
    rw [List.contains_cons, Bool.or_eq_false_iff] at h
    have hne : ¬ n = f := fun e => by
      have := h.1
      rw [e] at this
      simp at this
    rw [List.zip_cons_cons, List.cons_append, List.cons_append, List.zip_cons_cons]
    show (if n = f then (n, y) :: ns.zip vs else (n, u) :: putF f y (ns.zip vs)) = _
    rw [if_neg hne, zip_put h.2 (by simpa using hl)]
structure CalM (G : Cfg) (k : Nat) (x m : Str) (S : SpecD) : Prop where
  ex : ∃ (C f : Addr) (fd : FuncData) (ps : List Str), ClsAt G x C ∧ Meth G.K C m f ∧ FnOk G.P G.w G.K G.mg G.base (CX G.P G.w) k f fd ps (spD S) ∧ Binds G.K fd ps []
structure CalI (G : Cfg) (k : Nat) (x : Str) (S : SpecD) : Prop where
  ex : ∃ (C f : Addr) (fd : FuncData) (ps : List Str), ClsAt G x C ∧ Mk G.K C f ∧ FnOk G.P G.w G.K G.mg G.base (CX G.P G.w) k f fd ps (spD S) ∧ Binds G.K fd ps []
structure DefM (G : Cfg) (x m q : Str) (st : Stmt) : Prop where
  ex : ∃ (C f : Addr) (fd : FuncData), ClsAt G x C ∧ Meth G.K C m f ∧ FunD G.K m q (defArgs st) (defBody st) (defScope st) [] [] f fd
structure DefI (G : Cfg) (x q : Str) (st : Stmt) : Prop where
  ex : ∃ (C f : Addr) (fd : FuncData), ClsAt G x C ∧ Mk G.K C f ∧ FunD G.K "__init__" q (defArgs st) (defBody st) (defScope st) [] [] f fd
theorem fn_okP {G : Cfg} {x qual : Str} {params : Arguments} {body : List Stmt} {scope : Scope} {f : Addr} {fd : FuncData} {N ps : List Str} {k : Nat} {S : SpecD} (F : FunD G.K x qual params body scope [] [] f fd) (sc : FnScope N ps scope)
    (len : ∀ ds O rk, S ds O rk → ds.length = ps.length)
    (hb : ∀ ds O rk, S ds O rk → ∃ (S1 R : Type) (ek : Ek S1 R) (s : S1), SS G ⟨k, N, scope, true, true⟩ body (frame0 N ds) O ek (.nx s) ∧ ∀ F σ H, (ek.fs s).ok F σ H → rk.ok F .non H) : FnOk G.P G.w G.K G.mg G.base (CX G.P G.w) (k + 1) f fd ps (spD S) := by
  obtain ⟨P, w, K, mg, base⟩ := G
  refine F.ok sc (fun vs H Q E h => ?_) (fun cdv A outer s H vs Q E hr h => ?_)
  · obtain ⟨ds, O, rk, F0, hS, hO, ha, _⟩ := h
    rw [AllD.length ha]
    exact len ds O rk hS
  · obtain ⟨ds, O, rk, F0, hS, hO, ha, hq, _⟩ := h
    obtain ⟨S1, R, ek, st, hss, hrk⟩ := hb ds O rk hS
    refine ⟨_, pss_can, hss.run _ (inC_of hr) _ (takes_of rfl rfl rfl rfl) F0 _ H ⟨frame_start ha, hO⟩ _ ?_⟩
    intro σ H' hv
    exact hq .non H' (hrk F0 σ H' hv)
section
variable {G : Cfg} {x m q : Str} {st : Stmt} {N ps : List Str} {k : Nat} {S : SpecD}
theorem DefM.callee (d : DefM G x m q st) (sc : FnScope N ps (defScope st)) (len : ∀ ds O rk, S ds O rk → ds.length = ps.length)
    (hbind : ∀ (kV doc pm : Value) (an : Option Addr) (cdv ct : Value) (us : List Value), us.length = ps.length → bindArgs (PySem.W.fnOf m q (defArgs st) (defBody st) (defScope st) .none kV doc pm an cdv ct) ⟨us, []⟩ = pure (ps.zip us))
    (hb : ∀ ds O rk, S ds O rk → ∃ (S1 R : Type) (ek : Ek S1 R) (r : R), SS G ⟨k, N, defScope st, true, true⟩ (defBody st) (frame0 N ds) O ek (.rt r) ∧ ek.rs r = rk) : CalM G (k + 1) x m S := by
  obtain ⟨C, f, fd, hC, hm, F⟩ := d.ex
  exact ⟨C, f, fd, ps, hC, hm, fn_ok F sc len hb, F.bindsN hbind⟩
theorem DefI.callee (d : DefI G x q st) (sc : FnScope N ps (defScope st)) (len : ∀ ds O rk, S ds O rk → ds.length = ps.length)
    (hbind : ∀ (kV doc pm : Value) (an : Option Addr) (cdv ct : Value) (us : List Value), us.length = ps.length → bindArgs (PySem.W.fnOf "__init__" q (defArgs st) (defBody st) (defScope st) .none kV doc pm an cdv ct) ⟨us, []⟩ = pure (ps.zip us))
    (hb : ∀ ds O rk, S ds O rk → ∃ (S1 R : Type) (ek : Ek S1 R) (s : S1), SS G ⟨k, N, defScope st, true, true⟩ (defBody st) (frame0 N ds) O ek (.nx s) ∧ ∀ F σ H, (ek.fs s).ok F σ H → rk.ok F .non H) : CalI G (k + 1) x S := by
  obtain ⟨C, f, fd, hC, hm, F⟩ := d.ex
  exact ⟨C, f, fd, ps, hC, hm, fn_okP F sc len hb, F.bindsN hbind⟩
end
def spD0 (S : SpecD) : Sp := fun vs H Q _ => ∃ ds O rk F, S ds O rk ∧ HoldO F O H ∧ AllD F ds vs ∧ (∀ v H', rk.ok F v H' → Q v H') ∧ rk.NoX
theorem fok0 {G : Cfg} {k : Nat} {f : Addr} {fd : FuncData} {ps : List Str} {S : SpecD} (F : FnOk G.P G.w G.K G.mg G.base (CX G.P G.w) k f fd ps (spD S)) : FnOk G.P G.w G.K G.mg G.base CX0 k f fd ps (spD0 S) := by
  have key : ∀ vs H Q E, spD0 S vs H Q E → spD S vs H Q E0 := fun vs H Q E ⟨ds, O, rk, F0, a, b, c, d, e⟩ => ⟨ds, O, rk, F0, a, b, c, d, fun _ _ _ z => (e _ _ _ _ z).elim⟩
  refine ⟨fun vs H Q E h => F.len vs H Q E0 (key vs H Q E h), fun A outer s H args us vs Q E hr he hb hv h => codeAny_mono (F.run A outer s H args us vs Q E0 hr he hb hv (key vs H Q E h)) fun r s' q => ?_⟩
  cases r with
  | ok fl => cases fl <;> exact q
  | error e =>
    obtain ⟨_, _, _, _, _, _, _, _, _, _, _, _, z⟩ := (show CX G.P G.w outer H s E0 e s' from q)
    exact z.elim
def dFn (G : Cfg) (k : Nat) (S : SpecD) : D := ⟨fun _ v => ∃ (f : Addr) (fd : FuncData) (ps : List Str), v = .ref f ∧ FnOk G.P G.w G.K G.mg G.base (CX G.P G.w) k f fd ps (spD S) ∧ PySem.W.keepIn G.K (.ref f) = true ∧ Binds G.K fd ps [], fun _ h => h⟩
section
variable {G : Cfg} {C : Sc} {Γ : Fr} {O : Own} {S1 R B : Type} {kk : Ek S1 R} {oo : Out S1 R} {e a b c o : Expr} {es : List Expr} {d da db : D} {ds fs : List D} {ss ta : List Stmt} {pos p1 p2 p3 : Pos} {x f m y : Str} {α β : Type} {ns : List Str} {S : SpecD} {k n : Nat} {p : Addr} {od : OD}
theorem e_fld {i : Nat} (ho : E G C o Γ O (dIns G x ns ds)) (nd : ns.Nodup) (hf : ns[i]? = some f) (hd : ds[i]? = some d) (na : NoAt G x f) (hb : ∀ env, attributeBase o f env (eval o env) = eval o env) : E G C (.Attribute o f pos) Γ O d := .mk fun X c F σ H hh Q q => by
  refine we_of (pe_fld pe_can (hb X.env)) (ho.run X c F σ H hh _ fun F1 H1 v e1 h1 d1 => ?_)
  obtain ⟨a, Cl, dx, vs, rfl, hC, ha, hl, hv⟩ := d1
  obtain ⟨C2, h2, h3⟩ := na
  have e := ClsAt.same hC.mg h2
  subst e
  obtain ⟨u, hu, du⟩ := AllD.get hv hd
  exact ⟨a, Cl, dx, _, u, rfl, h1.ho.ex a _ ha, by rw [c.K]; exact hC.cl, by rw [c.K]; exact h3, zip_lookup nd hf hu, q F1 H1 u e1 h1 du⟩
theorem ss_fld (hk : O[n]? = some (p, oIns G x ns ds)) (ha : E G C a Γ O (dP p)) (h : E G C e Γ O d) (nf : ns.contains f = false) (na : NoAt G x f) (hl : ns.length < 1000) (hs : ∀ env, swapsWith e (some (.Attribute a f p1)) pos.line env = pure false)
    (hr : SS G C ss Γ (O.set n (p, oIns G x (ns ++ [f]) (ds ++ [d]))) kk oo) : SS G C (.Assign [.Attribute a f p1] e pos :: ss) Γ O kk oo :=
  ss_cons (t := fun X => sFld X.K (WE X a) (WE X e) f) (fun X c => ps_fld pe_can pe_can (hs X.env)) fun X c W tk F σ H hh D mm => by
    refine h.run X c F σ H hh _ fun F1 H1 u e1 h1 d1 => ?_
    refine ha.run X c F1 σ H1 h1 _ fun F2 H2 v e2 h2 d2 => ?_
    have hv : v = .ref p := d2
    subst hv
    obtain ⟨_, ob, hp, Cl, dx, vs, rfl, hC, hln, hv⟩ := h2.ho.at hk
    obtain ⟨C2, h3, h4⟩ := na
    have e := ClsAt.same hC.mg h3
    subst e
    have hvl : vs.length = ns.length := (AllD.length hv).trans hln
    refine ⟨p, Cl, dx, _, rfl, hp, by rw [c.K]; exact hC.cl, by rw [c.K]; exact h4, ?_, ?_⟩
    · rw [List.length_zip]
      omega
    · rw [zip_put nf hvl]
      refine hr.run X c W tk F2 σ _ ⟨h2.fr, h2.ho.write hk ⟨Cl, dx, vs ++ [u], rfl, hC, ?_, AllD.append hv ⟨d.mono e2 d1, trivial⟩⟩⟩ D (meet.mono (e1.trans e2) mm)
      rw [List.length_append, List.length_append, hln]
      rfl
theorem we_meth0 [Calm C] {rk : RK} (cal : CalM G k x m S) (hk : k ≤ C.k) (ho : E G C o Γ O (dIns G x ns fs)) (hn : ns.contains m = false) (hS : S [dIns G x ns fs] O rk)
    (ht : ∀ env, ∃ pl, eval (.Call (.Attribute o m p1) [] [] pos) env = (do
      let ov ← eval o env
      standAt p1.atName
      let (f, first) ← holding [ov] (getMethod ov m pl)
      callWith pos f first (backTo pos (starEach [] env)) (backToKw pos (keywordEach [] env)))) {X : Cx} (c : InC G C X) {F : Hp} {σ : L2.St} {H : Hp} (hh : Hold F Γ O σ H) {Q : VK} (q : ∀ F1 v H', Gw F F1 → FrOk F1 Γ σ → rk.ok F1 v H' → Q v H') (hx : rk.NoX := by exact fun _ _ _ _ z => z) : WE X (.Call (.Attribute o m p1) [] [] pos) σ H Q := by
  obtain ⟨Cl, f, fd, ps, hC, hm, Fn, bi⟩ := cal.ex
  have Fn' : FnOk X.prog X.w X.K X.mg X.base (CX X.prog X.w) k f fd ps (spD S) := by rw [c.p, c.w, c.K, c.mg, c.base]; exact Fn
  obtain ⟨pl, ht'⟩ := ht X.env
  refine we_of (pe_meth0 (dvs := []) (E := E0) (pl := pl) pe_can (by rw [c.K]; exact hC.cl) (by rw [c.K]; exact hm) Fn' (c.room.mono hk) (by rw [c.K]; exact bi) .nil passL ht') (ho.run X c F σ H hh _ fun F0 H0 v e0 h0 d0 => ?_)
  obtain ⟨ad, C2, dx, us, rfl, hC2, hb, hl, hv⟩ := id d0
  have e2 := ClsAt.same hC.mg hC2.mg
  subst e2
  exact ⟨ad, dx, _, rfl, h0.ho.ex ad _ hb, zip_none hn, [dIns G x ns fs], O, rk, F0, hS, h0.ho, ⟨d0, trivial⟩, fun v H' hv => q F0 v H' e0 h0.fr hv, fun _ _ _ z => hx _ _ _ _ z⟩
abbrev MethTree (o : Expr) (m : Str) (p1 pos : Pos) (es : List Expr) : Prop := ∀ env, ∃ pl, eval (.Call (.Attribute o m p1) es [] pos) env = (do
      let ov ← eval o env
      standAt p1.atName
      let (f, first) ← holding [ov] (getMethod ov m pl)
      callWith pos f first (backTo pos (starEach es env)) (backToKw pos (keywordEach [] env)))
theorem en_meth0 [Calm C] (cal : CalM G k x m S) (hk : k ≤ C.k) (ho : E G C o Γ O (dIns G x ns fs)) (hn : ns.contains m = false) (hS : S [dIns G x ns fs] O (RK.new od O)) (ht : MethTree o m p1 pos []) : EN G C (.Call (.Attribute o m p1) [] [] pos) Γ O od := .mk fun X c F σ H hh Q q =>
  we_meth0 cal hk ho hn hS ht c hh fun F1 v H' e1 fr ⟨F2, p, e2, hv, h2⟩ => by subst hv; exact q F2 H' p (e1.trans e2) ⟨fr.mono e2, h2⟩
theorem e_make [Calm C] (cal : CalI G k x S) (hk : k + 1 ≤ C.k) (g : Glo C x) (hS : ∀ p, S (dP p :: ds) ((p, oIns G x [] []) :: O) (RK.unit ((p, oIns G x ns fs) :: O))) (ha : A G C (e :: es) Γ O ds) (hs : ∀ env, starEach (e :: es) env = (false, eval e env) :: starEach es env) : E G C (.Call (.Name x p1) (e :: es) [] pos) Γ O (dIns G x ns fs) := .mk fun X c F σ H hh Q q => by
  obtain ⟨Cl, f, fd, ps, hC, hm, Fn, bi⟩ := cal.ex
  have Fn' : FnOk X.prog X.w X.K X.mg X.base (CX X.prog X.w) k f fd ps (spD S) := by rw [c.p, c.w, c.K, c.mg, c.base]; exact Fn
  refine we_of (pe_make (dvs := []) (E := E0) (by rw [c.K]; exact hm) Fn' (c.room.mono hk) (c.gl g) (by rw [c.mg]; exact hC.mg) (by rw [c.K]; exact bi) .nil passL pa_can g.2.1 (hs X.env) ?_) (ha.run X c F σ H hh _ fun F1 H1 vs e1 h1 d1 => ?_)
  · have a := ha.bt pos X.env
    rw [hs] at a
    unfold backTo at a ⊢
    rw [List.map_cons, List.any_cons] at a
    exact (Bool.or_eq_false_iff.mp a).2
  · intro p dx hp hdx hne
    rw [List.append_nil]
    obtain ⟨h2, e2⟩ := h1.ho.laid (o := .own p) hdx
    have hp2 : upd H1 dx (.own p) p = none := by rw [upd_ne (Ne.symm hne)]; exact hp
    have h3 := h2.own (od := oIns G x [] []) hp2 ⟨Cl, dx, [], rfl, hC, rfl, trivial⟩
    refine ⟨_, _, _, _, hS p, h3, ⟨rfl, AllD.mono e2 d1⟩, fun v H' hv => ?_, fun _ _ _ z => z⟩
    obtain ⟨hv, F', e3, h4⟩ := hv
    refine ⟨hv, ?_⟩
    obtain ⟨ob, hob, ⟨C2, dx2, us, rfl, hC2, hl, hus⟩, e4, h5⟩ := h4.freeze
    exact q _ H' (.ref p) (((e1.trans e2).trans e3).trans e4) ⟨h1.fr.mono ((e2.trans e3).trans e4), h5⟩ ⟨p, C2, dx2, us, rfl, hC2, upd_same, hl, AllD.mono e4 hus⟩
theorem e_fn (cal : Callee G k x S) (g : Glo C x) : E G C (.Name x pos) Γ O (dFn G k S) := .mk fun X c F σ H hh Q q => by
  obtain ⟨f, fd, ps, Fn, gx, kp, bi⟩ := cal.ex
  exact we_of (pe_glob (v := .ref f) (c.gl g) (by rw [c.mg]; exact gx) rfl g.2.1) (q F H _ (Gw.refl F) hh ⟨f, fd, ps, rfl, Fn, kp, bi⟩)
theorem e_callL [Calm C] {i : Nat} (v : Var C i x) (hi : Γ[i]? = some (some (dFn G k S))) (hk : k ≤ C.k) (hS : S ds O (RK.val d O)) (ha : A G C (e :: es) Γ O ds) (hs : ∀ env, starEach (e :: es) env = (false, eval e env) :: starEach es env) : E G C (.Call (.Name x p1) (e :: es) [] pos) Γ O d := .mk fun X c F σ H hh Q q => by
  obtain ⟨u, hu, f, fd, ps, rfl, Fn, kp, bi⟩ := hh.fr.2 i _ hi
  have cal : C8.CalAt X.prog X.w X.K X.mg X.base k f (spD0 S) := by rw [c.p, c.w, c.K, c.mg, c.base]; exact ⟨fd, ps, fok0 Fn, kp, bi⟩
  refine we_of (C8.pe_cv cal cal c.room hk hk (by rw [c.n]; exact v.n) (by rw [c.sc]; exact v.v) pa_can v.d v.c (hs X.env) ?_) (.inl ⟨hu, ha.run X c F σ H hh _ fun F1 H1 vs e1 h1 d1 => ?_⟩)
  · have a := ha.bt pos X.env
    rw [hs] at a
    unfold backTo at a ⊢
    rw [List.map_cons, List.any_cons] at a
    exact (Bool.or_eq_false_iff.mp a).2
  · refine ⟨ds, O, _, F1, hS, h1.ho, d1, fun v H' hv => ?_, fun _ _ _ _ z => z⟩
    obtain ⟨F2, e2, h2, d2⟩ := hv
    exact q F2 H' v (e1.trans e2) ⟨h1.fr.mono e2, h2⟩ d2
theorem ss_skip (h : T G C c Γ O false) (hr : SS G C ss Γ O kk oo) : SS G C (.If c ta [] pos :: ss) Γ O kk oo := .mk fun X c0 W tk F σ H hh D mm =>
  wss_of (t := tSeq (tIfS (WT X c) (WSs X ta) tNext) (WSs X ss)) (pss_cons (ps_if pt_can pss_can pss_nil) pss_can) (h.run X c0 F σ H hh _ fun F1 H1 e1 h3 =>
    iteF (hr.run X c0 W tk F1 σ H1 h3 D (meet.mono e1 mm)))
theorem ss_retO {r : R} {i : Nat} (v : Var C i x) (hi : Γ[i]? = some (some (dP p))) (hr : ∀ F v H, (RK.new od O).ok F v H → (kk.rs r).ok F v H) : SS G C (.Return (some (.Name x p1)) pos :: ss) Γ ((p, od) :: O) kk (.rt r) :=
  ss_cons (t := fun X => tRet (WE X (.Name x p1))) (fun _ _ => ps_ret pe_can) fun X c W tk F σ H hh D mm => by
    have h := e_var (G := G) (C := C) (O := (p, od) :: O) (pos := p1) v hi
    refine h.run X c F σ H hh _ fun F1 H1 u e1 h1 d1 => ?_
    have hu : u = .ref p := d1
    subst hu
    exact mm.1 _ H1 (hr F _ H1 ⟨F1, p, e1, rfl, h1.ho⟩)
end
end Kn
namespace Kn
open PySem PySem.Spec L2
def inClass (st : Stmt) (j : Nat) : Stmt := match st with
  | .ClassDef (body := b) .. => b.getD j (.Pass ⟨0, 0, 0, 0⟩)
  | _ => .Pass ⟨0, 0, 0, 0⟩
section
variable {K : PySem.W.Frag} {P : Program} {w : World} {mg : Str → Option Value} {base h : Heap} {fa : List He.Fa} {fn : List He.DefD} {i j k l : Nat} {x m q : Str} {st : Stmt}
theorem clsAt_of (X : K.In h) (Gm : h.Ns mainGlobals mg) (c : He.SaysD fa fn K) (hf : fa[j]? = some (.glo x)) (hc : fa[k]? = some (.cls x)) : ClsAt ⟨P, w, K, mg, base⟩ x (He.ga K x) :=
  ⟨He.glo_ok X Gm (c.fact j hf), He.cls_ok (c.fact k hc)⟩
theorem defM_of (X : K.In h) (Gm : h.Ns mainGlobals mg) (c : He.SaysD fa fn K) (hd : fn[i]? = some ⟨(x, some m), m, q, defArgs st, defBody st, defScope st, [], []⟩) (hf : fa[j]? = some (.glo x)) (hc : fa[k]? = some (.cls x)) (hm : fa[l]? = some (.meth x m)) : DefM ⟨P, w, K, mg, base⟩ x m q st := by
  obtain ⟨fd, F⟩ := c.def_ i hd
  exact ⟨He.ga K x, He.fAd K (x, some m), fd, clsAt_of X Gm c hf hc, He.meth_ok (c.fact l hm), F⟩
theorem defI_of (X : K.In h) (Gm : h.Ns mainGlobals mg) (c : He.SaysD fa fn K) (hd : fn[i]? = some ⟨(x, some "__init__"), "__init__", q, defArgs st, defBody st, defScope st, [], []⟩) (hf : fa[j]? = some (.glo x)) (hc : fa[k]? = some (.cls x)) (hm : fa[l]? = some (.mkr x)) : DefI ⟨P, w, K, mg, base⟩ x q st := by
  obtain ⟨fd, F⟩ := c.def_ i hd
  exact ⟨He.ga K x, He.fAd K (x, some "__init__"), fd, clsAt_of X Gm c hf hc, He.mkr_ok (c.fact l hm), F⟩
theorem noat_of (X : K.In h) (Gm : h.Ns mainGlobals mg) (c : He.SaysD fa fn K) (hf : fa[j]? = some (.glo x)) (hm : fa[k]? = some (.noat x m)) : NoAt ⟨P, w, K, mg, base⟩ x m :=
  ⟨He.ga K x, He.glo_ok X Gm (c.fact j hf), He.noat_ok (c.fact k hm)⟩
end
end Kn
namespace Kn
open PySem PySem.Spec L2
section
variable {κ α : Type} [DecidableEq κ]
def dHas (kvs : List (κ × α)) (k : κ) : Bool := kvs.any fun q => decide (q.1 = k)
def dFind : List (κ × α) → κ → Option α
  | [], _ => none
  | q :: r, k => if q.1 = k then some q.2 else dFind r k
def dGet [Inhabited α] (kvs : List (κ × α)) (k : κ) : α := (dFind kvs k).getD default
def dPut (kvs : List (κ × α)) (k : κ) (v : α) : List (κ × α) := if dHas kvs k then kvs.map (fun q => if q.1 = k then (q.1, v) else q) else kvs ++ [(k, v)]
theorem dHas_find {kvs : List (κ × α)} {k : κ} : dHas kvs k = (dFind kvs k).isSome := by
  induction kvs with
  | nil => rfl
  | cons q r ih =>
    unfold dHas at ih ⊢
    rw [List.any_cons, ih]
    unfold dFind
    by_cases h : q.1 = k
    · rw [if_pos h, decide_eq_true h]; rfl
    · rw [if_neg h, decide_eq_false h, Bool.false_or]
      cases r <;> rfl
end
abbrev kS (s : Str) : Key := .inr s
theorem kS_inj {a b : Str} : kS a = kS b ↔ a = b := ⟨fun h => Sum.inr.inj h, fun h => by rw [h]⟩
section
variable {κ α KT : Type}
def AllK (F : Hp) (kk : κ → KT) (f : α → D) : List (κ × α) → List (KT × V) → Prop
  | [], [] => True
  | q :: r, u :: s => u.1 = kk q.1 ∧ (f q.2).ok F u.2 ∧ AllK F kk f r s
  | _, _ => False
theorem AllK.mono {F F' : Hp} {kk : κ → KT} {f : α → D} (e : Gw F F') : ∀ {kvs : List (κ × α)} {us : List (KT × V)}, AllK F kk f kvs us → AllK F' kk f kvs us
  | [], [], _ => trivial
  | _ :: _, _ :: _, h => ⟨h.1, D.mono _ e h.2.1, AllK.mono e h.2.2⟩
  | [], _ :: _, h => h.elim
  | _ :: _, [], h => h.elim
theorem AllK.length {F : Hp} {kk : κ → KT} {f : α → D} : ∀ {kvs : List (κ × α)} {us : List (KT × V)}, AllK F kk f kvs us → us.length = kvs.length
  | [], [], _ => rfl
  | _ :: _, _ :: _, h => by simp [AllK.length h.2.2]
  | [], _ :: _, h => h.elim
  | _ :: _, [], h => h.elim
theorem AllK.snoc {F : Hp} {kk : κ → KT} {f : α → D} {k : κ} {a : α} {v : V} (hv : (f a).ok F v) : ∀ {kvs : List (κ × α)} {us : List (KT × V)}, AllK F kk f kvs us → AllK F kk f (kvs ++ [(k, a)]) (us ++ [(kk k, v)])
  | [], [], _ => ⟨rfl, hv, trivial⟩
  | _ :: _, _ :: _, h => ⟨h.1, h.2.1, AllK.snoc hv h.2.2⟩
  | [], _ :: _, h => h.elim
  | _ :: _, [], h => h.elim
variable [DecidableEq κ] [DecidableEq KT]
theorem AllK.find {F : Hp} {kk : κ → KT} {f : α → D} (inj : ∀ a b, kk a = kk b ↔ a = b) {k : κ} : ∀ {kvs : List (κ × α)} {us : List (KT × V)}, AllK F kk f kvs us → (∀ a, dFind kvs k = some a → ∃ v, valV us (kk k) = some v ∧ (f a).ok F v) ∧ (dFind kvs k = none → valV us (kk k) = none)
  | [], [], _ => ⟨fun a e => (nomatch e), fun _ => rfl⟩
  | q :: r, u :: s, h => by
    have ih := AllK.find inj (k := k) h.2.2
    by_cases hq : q.1 = k
    · have hu : u.1 = kk k := by rw [h.1, hq]
      refine ⟨fun a e => ?_, fun e => ?_⟩
      · unfold dFind at e
        rw [if_pos hq] at e
        cases e
        exact ⟨u.2, valV_pos hu, h.2.1⟩
      · unfold dFind at e
        rw [if_pos hq] at e
        cases e
    · have hu : ¬ u.1 = kk k := by
        rw [h.1]
        exact fun e => hq ((inj _ _).mp e)
      refine ⟨fun a e => ?_, fun e => ?_⟩
      · unfold dFind at e
        rw [if_neg hq] at e
        rw [valV_neg hu]
        exact ih.1 a e
      · unfold dFind at e
        rw [if_neg hq] at e
        rw [valV_neg hu]
        exact ih.2 e
  | [], _ :: _, h => h.elim
  | _ :: _, [], h => h.elim
theorem AllK.has {F : Hp} {kk : κ → KT} {f : α → D} (inj : ∀ a b, kk a = kk b ↔ a = b) {k : κ} : ∀ {kvs : List (κ × α)} {us : List (KT × V)}, AllK F kk f kvs us → (us.any fun u => decide (u.1 = kk k)) = dHas kvs k
  | [], [], _ => rfl
  | q :: r, u :: s, h => by
    have ih := AllK.has inj (k := k) h.2.2
    unfold dHas at ih ⊢
    rw [List.any_cons, List.any_cons, ih, h.1]
    congr 1
    exact dec_iff (inj _ _)
  | [], _ :: _, h => h.elim
  | _ :: _, [], h => h.elim
theorem AllK.map {F : Hp} {kk : κ → KT} {f : α → D} (inj : ∀ a b, kk a = kk b ↔ a = b) {k : κ} {a : α} {v : V} (hv : (f a).ok F v) : ∀ {kvs : List (κ × α)} {us : List (KT × V)}, AllK F kk f kvs us → AllK F kk f (kvs.map fun q => if q.1 = k then (q.1, a) else q) (us.map fun u => if u.1 = kk k then (u.1, v) else u)
  | [], [], _ => trivial
  | q :: r, u :: s, h => by
    rw [List.map_cons, List.map_cons]
    by_cases hq : q.1 = k
    · have hu : u.1 = kk k := by rw [h.1, hq]
      rw [if_pos hq, if_pos hu]
      exact ⟨h.1, hv, AllK.map inj hv h.2.2⟩
    · have hu : ¬ u.1 = kk k := by
        rw [h.1]
        exact fun e => hq ((inj _ _).mp e)
      rw [if_neg hq, if_neg hu]
      exact ⟨h.1, h.2.1, AllK.map inj hv h.2.2⟩
  | [], _ :: _, h => h.elim
  | _ :: _, [], h => h.elim
theorem AllK.put {F : Hp} {kk : κ → KT} {f : α → D} (inj : ∀ a b, kk a = kk b ↔ a = b) {k : κ} {a : α} {v : V} (hv : (f a).ok F v) {kvs : List (κ × α)} {us : List (KT × V)} (h : AllK F kk f kvs us) : AllK F kk f (dPut kvs k a) (putK us (kk k) v) := by
  unfold dPut putK
  rw [h.has inj]
  cases dHas kvs k with
  | true => exact h.map inj hv
  | false => exact h.snoc hv
end
def kOk : Key → Prop
  | .inl _ => True
  | .inr s => okS s
def oDc {κ α : Type} (kk : κ → Key) (f : α → D) (kvs : List (κ × α)) : OD := ⟨fun F o => ∃ us, o = .dK us ∧ AllK F kk f kvs us ∧ ∀ q ∈ kvs, kOk (kk q.1), fun e ⟨us, h1, h2, h3⟩ => ⟨us, h1, h2.mono e, h3⟩⟩
def dDc {κ α : Type} (kk : κ → Key) (f : α → D) (kvs : List (κ × α)) : D := ⟨fun F v => ∃ a us od, v = .ref a ∧ F a = some (.frz od (.dK us)) ∧ AllK F kk f kvs us ∧ ∀ q ∈ kvs, kOk (kk q.1), fun e ⟨a, us, od, h1, h2, h3, h4⟩ => ⟨a, us, od, h1, e a _ h2, h3.mono e, h4⟩⟩
def IsK (d : D) (k : Key) : Prop := ∀ F v, d.ok F v → v = kV k ∧ kOk k
theorem isK_S {s : Str} : IsK (dS s) (kS s) := fun _ _ h => h
theorem kOk_put {κ α : Type} [DecidableEq κ] {kk : κ → Key} {kvs : List (κ × α)} {k : κ} {y : α} (h : ∀ q ∈ kvs, kOk (kk q.1)) (hk : kOk (kk k)) : ∀ q ∈ dPut kvs k y, kOk (kk q.1) := by
  intro q hq
  unfold dPut at hq
  split at hq
  · obtain ⟨r, hr, rfl⟩ := List.mem_map.mp hq
    split
    · exact h r hr
    · exact h r hr
  · rcases List.mem_append.mp hq with hq | hq
    · exact h q hq
    · rw [List.mem_singleton.mp hq]; exact hk
theorem gw_lock {F H : Hp} {p : Addr} {o : HO} {O : Own} {od : OD} (h : HoldO F ((p, od) :: O) H) (o' : HO) : HoldO (upd F p o') O (upd H p o') ∧ Gw F (upd F p o') := by
  obtain ⟨hf, ob, hp, ho⟩ := h.ow (p, od) List.mem_cons_self
  have hn := List.nodup_cons.mp h.nd
  refine ⟨⟨fun a u q => ?_, hn.2, fun q hq => ?_⟩, Gw.new hf⟩
  · by_cases ha : a = p
    · subst ha; rw [upd_same] at q ⊢; exact q
    · rw [upd_ne ha] at q ⊢; exact h.ex a u q
  · obtain ⟨h1, u, h2, h3⟩ := h.ow q (List.mem_cons_of_mem _ hq)
    have hne : q.1 ≠ p := fun e => hn.1 (List.mem_map.mpr ⟨q, hq, e⟩)
    exact ⟨by rw [upd_ne hne]; exact h1, u, by rw [upd_ne hne]; exact h2, q.2.mono (Gw.new hf) h3⟩
theorem we_ghost {X : Cx} {e : Expr} {σ : L2.St} {H : Hp} {Q Q0 : VK} (h : WE X e σ H Q0) (g : ∀ (pins : List (Addr × Obj)) (s : Shared) (v : V) (H' : Hp), Inv X pins σ H' s → Q0 v H' → ∃ H2, Inv X pins σ H2 s ∧ Q v H2) : WE X e σ H Q := fun pins s I =>
  wpAny_mono (h pins s I) (fun u s' ⟨v, H', I', r, q⟩ => by obtain ⟨H2, I2, q2⟩ := g pins s' v H' I' q; exact ⟨v, H2, I2, r, q2⟩) fun _ _ x => x
theorem wss_ghost {X : Cx} {ss : List Stmt} {D : Ends} {σ : L2.St} {H : Hp} {d : Addr} {u : HO} (h : H d = some u) (mu : Mut (some u)) (k : ∀ od, WSs X ss D σ (upd H d (.frz od u))) : WSs X ss D σ H := fun pins s I => by
  obtain ⟨od, I'⟩ := I.lock h mu
  exact k od pins s I'
theorem dgetK {H : Hp} {a : Addr} {kvs : List (Key × V)} {k : Key} (e : Rd H a (.dK kvs)) : DGet H a (kV k) (valV kvs k) := .inl ⟨kvs, k, e, rfl, rfl⟩
theorem dgetTu {H : Hp} {a b : Addr} {kvs : List (List Key × V)} {k : List Key} (e : Rd H a (.dT kvs)) (eb : H b = some (.tup (k.map kV))) : DGet H a (.ref b) (valV kvs k) := .inr ⟨kvs, k, b, e, rfl, eb, rfl⟩
section
variable {G : Cfg} {C : Sc} {Γ : Fr} {O : Own} {S1 R B : Type} {kk : Ek S1 R} {oo : Out S1 R} {e a b c : Expr} {es : List Expr} {d da db : D} {ss : List Stmt} {pos p1 p2 p3 : Pos} {x : Str} {κ α : Type} [DecidableEq κ] {ke : κ → Key} {f : α → D} {kvs : List (κ × α)} {key : κ} {n : Nat} {p : Addr} {inj : ∀ a b, ke a = ke b ↔ a = b}
theorem en_dic0 : EN G C (.Dict [] [] pos) Γ O (oDc ke f []) := .mk fun X c F σ H hh Q q => by
  refine we_of pe_dnewK fun p hp => ?_
  exact q F _ p (Gw.refl F) ⟨hh.fr, hh.ho.own hp ⟨[], rfl, trivial, fun _ h => nomatch h⟩⟩
theorem freeze_dic {F : Hp} {H : Hp} (h : HoldO F ((p, oDc ke f kvs) :: O) H) : ∃ u, H p = some u ∧ Mut (some u) ∧ ∀ od, Gw F (upd F p (.frz od u)) ∧ HoldO (upd F p (.frz od u)) O (upd H p (.frz od u)) ∧ (dDc ke f kvs).ok (upd F p (.frz od u)) (.ref p) := by
  obtain ⟨o, hp, ⟨us, rfl, ha, hok⟩, _, _⟩ := h.freeze
  refine ⟨_, hp, trivial, fun od => ?_⟩
  obtain ⟨h1, h2⟩ := gw_lock (o := .dK us) h (.frz od (.dK us))
  exact ⟨h2, h1, p, us, od, rfl, upd_same, ha.mono h2, hok⟩
theorem en_dic (h : EN G C e Γ O (oDc ke f kvs)) : E G C e Γ O (dDc ke f kvs) := .mk fun X c F σ H hh Q q => by
  refine we_ghost (Q0 := fun v H' => ∃ F' p, Gw F F' ∧ v = .ref p ∧ Hold F' Γ ((p, oDc ke f kvs) :: O) σ H') (h.run X c F σ H hh _ fun F' H' p e1 h1 => ⟨F', p, e1, rfl, h1⟩) fun pins s v H' I ⟨F', p, e1, hv, h1⟩ => ?_
  subst hv
  obtain ⟨u, hp, mu, hz⟩ := freeze_dic h1.ho
  obtain ⟨od, I'⟩ := I.lock hp mu
  obtain ⟨e2, h2, d2⟩ := hz od
  exact ⟨_, I', q _ _ _ (e1.trans e2) ⟨h1.fr.mono e2, h2⟩ d2⟩
theorem ss_putD {y : α} {g : List (κ × α) → B} (ι : B → Out S1 R) (inj : ∀ a b, ke a = ke b ↔ a = b) (hk : O[n]? = some (p, oDc ke f kvs)) (ha : E G C a Γ O (dP p)) (ik : IsK d (ke key)) (hb : E G C b Γ O d) (h : E G C e Γ O (f y)) (hz : kvs.length < 16000000) (hs : ∀ env, swapsWith e (some (.Subscript a b p1)) pos.line env = pure false)
    (hr : ∀ ys, ys = dPut kvs key y → SS G C ss Γ (O.set n (p, oDc ke f ys)) kk (ι (g ys))) : SS G C (.Assign [.Subscript a b p1] e pos :: ss) Γ O kk (ι (lt (dPut kvs key y) g)) :=
  ss_cons (t := fun X => sDPut (WE X a) (WE X b) (WE X e)) (fun X c => ps_dput (by have := c.un; omega) pe_can pe_can pe_can (hs X.env)) fun X c W tk F σ H hh D m => by
    refine h.run X c F σ H hh _ fun F1 H1 u e1 h1 d1 => ?_
    refine ha.run X c F1 σ H1 h1 _ fun F2 H2 v e2 h2 d2 => ?_
    refine hb.run X c F2 σ H2 h2 _ fun F3 H3 w e3 h3 d3 => ?_
    obtain ⟨_, o, hp, us, rfl, hal, hok⟩ := h3.ho.at hk
    have d2' : v = .ref p := d2
    subst d2'
    rw [(ik F3 w d3).1]
    have hlen := hal.length
    refine ⟨p, _, rfl, .k hp (by rw [hlen, sizeLine_eq]; omega), ?_⟩
    exact (hr _ rfl).run X c W tk F3 σ _ ⟨h3.fr, h3.ho.write hk ⟨_, rfl, hal.put inj ((f y).mono (e2.trans e3) d1), kOk_put hok (ik F3 w d3).2⟩⟩ D (meet.mono ((e1.trans e2).trans e3) m)
theorem e_getD [Inhabited α] (inj : ∀ a b, ke a = ke b ↔ a = b) (hk : O[n]? = some (p, oDc ke f kvs)) (ha : E G C a Γ O (dP p)) (ik : IsK d (ke key)) (hb : E G C b Γ O d) (hh : dHas kvs key = true) (hs : NoSl b) : E G C (.Subscript a b pos) Γ O (f (dGet kvs key)) := .mk fun X c F σ H h0 Q q => by
  refine we_of (pe_dget (by have := c.un; omega) pe_can pe_can hs) (ha.run X c F σ H h0 _ fun F1 H1 v e1 h1 d1 => ?_)
  refine hb.run X c F1 σ H1 h1 _ fun F2 H2 w e2 h2 d2 => ?_
  obtain ⟨_, o, hp, us, rfl, hal, _⟩ := h2.ho.at hk
  have d1' : v = .ref p := d1
  subst d1'
  rw [(ik F2 w d2).1]
  rw [dHas_find, Option.isSome_iff_exists] at hh
  obtain ⟨z, hz⟩ := hh
  obtain ⟨u, hu, du⟩ := (hal.find inj (k := key)).1 z hz
  refine ⟨p, u, rfl, ?_, q F2 H2 u (e1.trans e2) h2 ?_⟩
  · rw [← hu]; exact .k hp
  · unfold dGet; rw [hz]; exact du
theorem e_getF [Inhabited α] (inj : ∀ a b, ke a = ke b ↔ a = b) (ha : E G C a Γ O (dDc ke f kvs)) (ik : IsK d (ke key)) (hb : E G C b Γ O d) (hh : dHas kvs key = true) (hs : NoSl b) : E G C (.Subscript a b pos) Γ O (f (dGet kvs key)) := .mk fun X c F σ H h0 Q q => by
  refine we_of (pe_dget (by have := c.un; omega) pe_can pe_can hs) (ha.run X c F σ H h0 _ fun F1 H1 v e1 h1 d1 => ?_)
  refine hb.run X c F1 σ H1 h1 _ fun F2 H2 w e2 h2 d2 => ?_
  obtain ⟨p, us, od, rfl, hp, hal, _⟩ := d1
  rw [(ik F2 w d2).1]
  rw [dHas_find, Option.isSome_iff_exists] at hh
  obtain ⟨z, hz⟩ := hh
  obtain ⟨u, hu, du⟩ := (hal.find inj (k := key)).1 z hz
  refine ⟨p, u, rfl, ?_, q F2 H2 u (e1.trans e2) h2 ?_⟩
  · rw [← hu]; exact dgetK (.inr ⟨od, h2.ho.ex p _ (e2 p _ hp)⟩)
  · unfold dGet; rw [hz]; exact (f z).mono e2 du
theorem e_get2F {y : α} (inj : ∀ a b, ke a = ke b ↔ a = b) (ha : E G C a Γ O (dDc ke f kvs)) (ik : IsK d (ke key)) (hb : E G C b Γ O d) (hc : E G C c Γ O (f y)) (m : ∀ X, M2 X a "get" p1 b c pos) : E G C (.Call (.Attribute a "get" p1) [b, c] [] pos) Γ O (f ((dFind kvs key).getD y)) := .mk fun X cc F σ H h0 Q q => by
  refine we_of (pe_dget2 (by have := cc.un; omega) pe_can pe_can pe_can (m X)) (ha.run X cc F σ H h0 _ fun F1 H1 v e1 h1 d1 => ?_)
  obtain ⟨p, us, od, rfl, hp, hal, _⟩ := d1
  refine ⟨p, rfl, .inl ⟨us, .inr ⟨od, h1.ho.ex p _ hp⟩⟩, hb.run X cc F1 σ H1 h1 _ fun F2 H2 w e2 h2 d2 => ?_⟩
  refine hc.run X cc F2 σ H2 h2 _ fun F3 H3 z e3 h3 d3 => ?_
  rw [(ik F2 w d2).1]
  cases hz : dFind kvs key with
  | none =>
    have hn := (hal.find inj (k := key)).2 hz
    refine ⟨none, ?_, q F3 H3 z ((e1.trans e2).trans e3) h3 (by rw [hz]; exact d3)⟩
    rw [← hn]; exact dgetK (.inr ⟨od, h3.ho.ex p _ (e3 p _ (e2 p _ hp))⟩)
  | some t =>
    obtain ⟨u, hu, du⟩ := (hal.find inj (k := key)).1 t hz
    refine ⟨some u, ?_, q F3 H3 u ((e1.trans e2).trans e3) h3 (by rw [hz]; exact (f t).mono (e2.trans e3) du)⟩
    rw [← hu]; exact dgetK (.inr ⟨od, h3.ho.ex p _ (e3 p _ (e2 p _ hp))⟩)
end
def NotN {α : Type} (f : α → D) : Prop := ∀ (a : α) (F : Hp) (v : V), (f a).ok F v → v ≠ .non
theorem notN_I : NotN dI := fun a F v h e => by rw [e] at h; cases h
def vaO {α : Type} (f : α → Va) : Option α → Va
  | none => .non
  | some a => f a
section
variable {G : Cfg} {C : Sc} {Γ : Fr} {O : Own} {e a b c : Expr} {es : List Expr} {d da db : D} {pos p1 p2 p3 : Pos} {x : Str} {α β : Type} {f : α → D}
theorem c_isO {o : Option α} (hn : NotN f) : CmpR G C .Is O (dO f o) dN o.isNone := cmp_of (fun _ _ => op_isN) fun F H x y hh e1 e2 Q q => by
  refine ⟨e2, ?_⟩
  cases o with
  | none =>
    have h1 : x = .non := e1
    rw [h1]
    exact q F H _ (Gw.refl F) hh rfl
  | some z => exact q F H _ (Gw.refl F) hh (by
      have := hn z F x e1
      show V.bl (decide (x = V.non)) = V.bl false
      rw [decide_eq_false this])
theorem c_notO {o : Option α} (hn : NotN f) : CmpR G C .IsNot O (dO f o) dN (!o.isNone) := cmp_of (fun _ _ => op_notN) fun F H x y hh e1 e2 Q q => by
  refine ⟨e2, ?_⟩
  cases o with
  | none =>
    have h1 : x = .non := e1
    rw [h1]
    exact q F H _ (Gw.refl F) hh rfl
  | some z => exact q F H _ (Gw.refl F) hh (by
      have := hn z F x e1
      show V.bl (!decide (x = V.non)) = V.bl true
      rw [decide_eq_false this]; rfl)
theorem o_some [Inhabited α] {o : Option α} (h : o.isNone = false) : dO f o = f (o.getD default) := by
  cases o with
  | none => cases h
  | some z => rfl
theorem any_opt {p : α → Va} (hp : ∀ x, f x = dA G.K (p x)) (o : Option α) : dO f o = dA G.K (vaO p o) := by
  cases o with
  | none => exact dA_non.symm
  | some z => exact hp z
def lmax : List Int → Int
  | [] => 0
  | x :: xs => xs.foldl imax x
theorem foldl_imax : ∀ (xs : List Int) (x : Int), (xs.foldl imax x = x ∨ xs.foldl imax x ∈ xs) ∧ x ≤ xs.foldl imax x ∧ ∀ y ∈ xs, y ≤ xs.foldl imax x
  | [], x => ⟨.inl rfl, Int.le_refl x, fun _ h => nomatch h⟩
  | z :: xs, x => by
    have ih := foldl_imax xs (imax x z)
    rw [List.foldl_cons]
    have h1 : x ≤ imax x z ∧ z ≤ imax x z ∧ (imax x z = x ∨ imax x z = z) := by
      unfold imax
      split <;> omega
    refine ⟨?_, by omega, fun y hy => ?_⟩
    · rcases ih.1 with h | h
      · rw [h]
        rcases h1.2.2 with h2 | h2
        · exact .inl h2
        · exact .inr (by rw [h2]; exact List.mem_cons_self)
      · exact .inr (List.mem_cons_of_mem _ h)
    · rcases List.mem_cons.mp hy with rfl | hy
      · omega
      · exact ih.2.2 y hy
theorem lmax_spec {l : List Int} (h : 0 < l.length) : lmax l ∈ l ∧ ∀ y ∈ l, y ≤ lmax l := by
  cases l with
  | nil => cases h
  | cons x xs =>
    obtain ⟨h1, h2, h3⟩ := foldl_imax xs x
    refine ⟨?_, fun y hy => ?_⟩
    · rcases h1 with h | h
      · show xs.foldl imax x ∈ _
        rw [h]; exact List.mem_cons_self
      · exact List.mem_cons_of_mem _ h
    · rcases List.mem_cons.mp hy with rfl | hy
      · exact h2
      · exact h3 y hy
theorem listI {K : PySem.W.Frag} {F : Hp} {v : V} {l : List Int} (h : (dLst K (l.map dI)).ok F v) : ∃ a, v = .ref a ∧ LsA K F a (l.map V.int) := by
  obtain ⟨a, vs, h1, h2, h3⟩ := h
  rw [map_dI] at h3
  rw [AllD.dV h3] at h2
  exact ⟨a, h1, h2⟩
theorem k_sumL [Calm C] {l : List Int} : CalR G C (.builtin "sum") O [dLst G.K (l.map dI)] (dI l.sum) := ⟨fun X c => ⟨_, cr_sum c.cm, fun F H vs hh h Q q => by
  obtain ⟨v, rfl, hv⟩ := all1 h
  obtain ⟨a, rfl, hs⟩ := listI hv
  exact ⟨a, l, rfl, by rw [c.K]; exact gw_l hh.ex hs.sq, q F H _ (Gw.refl F) hh rfl⟩⟩⟩
def getO (l : List (Option Int)) : List Int := l.map fun o => o.getD 0
end
end Kn
namespace Kn
theorem dPut_len {κ α : Type} [DecidableEq κ] {kvs : List (κ × α)} {k : κ} {v : α} : (dPut kvs k v).length ≤ kvs.length + 1 := by
  unfold dPut
  split
  · rw [List.length_map]; omega
  · rw [List.length_append]; exact Nat.le_refl _
theorem find_map {κ α : Type} [DecidableEq κ] {k j : κ} {v : α} : ∀ {kvs : List (κ × α)}, dFind (kvs.map fun q => if q.1 = k then (q.1, v) else q) j = (dFind kvs j).map fun x => if j = k then v else x
  | [] => rfl
  | q :: r => by
    have ih := find_map (k := k) (j := j) (v := v) (kvs := r)
    rw [List.map_cons]
    by_cases h : q.1 = k
    · rw [if_pos h]
      by_cases e : q.1 = j
      · unfold dFind
        rw [if_pos e, if_pos e, Option.map_some, if_pos (e.symm.trans h)]
      · unfold dFind
        rw [if_neg e, if_neg e, ih]
    · rw [if_neg h]
      by_cases e : q.1 = j
      · unfold dFind
        rw [if_pos e, if_pos e, Option.map_some, if_neg fun z => h (e.trans z)]
      · unfold dFind
        rw [if_neg e, if_neg e, ih]
theorem find_snoc {κ α : Type} [DecidableEq κ] {k j : κ} {v : α} : ∀ {kvs : List (κ × α)}, dFind kvs k = none → dFind (kvs ++ [(k, v)]) j = if j = k then some v else dFind kvs j
  | [], _ => by
    rw [List.nil_append]
    by_cases e : k = j
    · rw [if_pos e.symm, dFind, if_pos e]
    · have h1 : dFind [(k, v)] j = if k = j then some v else none := by rw [dFind, dFind]
      rw [if_neg fun z => e z.symm, h1, if_neg e, dFind]
  | q :: r, hn => by
    unfold dFind at hn
    by_cases h : q.1 = k
    · rw [if_pos h] at hn; cases hn
    · rw [if_neg h] at hn
      have ih := find_snoc (j := j) (v := v) hn
      rw [List.cons_append]
      by_cases e : q.1 = j
      · unfold dFind
        rw [if_pos e, if_pos e, if_neg fun z => h (e.trans z)]
      · unfold dFind
        rw [if_neg e, if_neg e, ih]
theorem find_put {κ α : Type} [DecidableEq κ] {kvs : List (κ × α)} {k j : κ} {v : α} : dFind (dPut kvs k v) j = if j = k then some v else dFind kvs j := by
  unfold dPut
  have hf := dHas_find (kvs := kvs) (k := k)
  cases h : dHas kvs k with
  | true =>
    rw [if_pos rfl, find_map]
    by_cases e : j = k
    · subst e
      rw [h] at hf
      obtain ⟨x, hx⟩ := Option.isSome_iff_exists.mp hf.symm
      rw [hx, if_pos rfl, Option.map_some, if_pos rfl]
    · rw [if_neg e]
      cases dFind kvs j with
      | none => rfl
      | some x => rw [Option.map_some, if_neg e]
  | false =>
    rw [if_neg (by simp)]
    rw [h] at hf
    exact find_snoc (by
      cases q : dFind kvs k with
      | none => rfl
      | some x => rw [q] at hf; cases hf)
theorem has_put {κ α : Type} [DecidableEq κ] {kvs : List (κ × α)} {k j : κ} {v : α} : dHas (dPut kvs k v) j = (decide (j = k) || dHas kvs j) := by
  rw [dHas_find, dHas_find, find_put]
  by_cases e : j = k
  · rw [if_pos e, decide_eq_true e]; rfl
  · rw [if_neg e, decide_eq_false e]; rfl
end Kn
namespace Kn
open PySem PySem.Spec PyProof.Rows L2
def nubS (xs : List Str) : List Str := xs.foldl (fun acc x => if x ∈ acc then acc else acc ++ [x]) []
theorem nub_snoc (xs : List Str) (x : Str) : nubS (xs ++ [x]) = if x ∈ nubS xs then nubS xs else nubS xs ++ [x] := by
  unfold nubS
  rw [List.foldl_append]
  rfl
theorem mem_nub {x : Str} : ∀ {xs : List Str}, x ∈ nubS xs ↔ x ∈ xs := by
  intro xs
  have go : ∀ (n : Nat) (ys : List Str), ys.length = n → (x ∈ nubS ys ↔ x ∈ ys) := by
    intro n
    induction n with
    | zero =>
      intro ys h
      rw [List.length_eq_zero_iff.mp h]
      exact Iff.rfl
    | succ n ih =>
      intro ys h
      have hne : ys ≠ [] := fun e => by rw [e] at h; cases h
      have e := List.dropLast_concat_getLast hne
      have hl : ys.dropLast.length = n := by rw [List.length_dropLast, h]; rfl
      have ih' := ih _ hl
      rw [← e, nub_snoc]
      by_cases hm : ys.getLast hne ∈ nubS ys.dropLast
      · rw [if_pos hm, List.mem_append, ih']
        constructor
        · exact .inl
        · rintro (h1 | h1)
          · exact h1
          · rw [List.mem_singleton] at h1
            subst h1
            exact ih'.mp hm
      · rw [if_neg hm, List.mem_append, List.mem_append, ih']
  exact go _ xs rfl
theorem nub_len (xs : List Str) : (nubS xs).length ≤ xs.length := by
  have h := foldl_meas (m := fun l : List Str => l.length) (c := 1) (f := fun acc x => if x ∈ acc then acc else acc ++ [x]) (fun s x => by
    by_cases hx : x ∈ s
    · rw [if_pos hx]; omega
    · rw [if_neg hx, List.length_append]; exact Nat.le_refl _) (xs := xs) (s0 := [])
  show (xs.foldl _ []).length ≤ _
  have h2 : ([] : List Str).length + 1 * xs.length = xs.length := by simp
  omega
theorem set_step {P : Program} {w : World} {h' : Heap} {a : Addr} {xs : List Str} {i : Nat} (hi : i < xs.length) (hs : h'.SetOf (PySem.strKind P w) a (fun k' => (xs.take i).any (· == k') || decide (k' = xs[i])) (if (xs.take i).any (· == xs[i]) = true then (nubS (xs.take i)).length else (nubS (xs.take i)).length + 1)) :
    h'.SetOf (PySem.strKind P w) a (fun k' => (xs.take (i + 1)).any (· == k')) (nubS (xs.take (i + 1))).length := by
  have ht : xs.take (i + 1) = xs.take i ++ [xs[i]] := List.take_succ_eq_append_getElem hi
  refine SetOf_congr hs (fun k => ?_) ?_
  · rw [ht, List.any_append, List.any_cons, List.any_nil, Bool.or_false]
    congr 1
    by_cases e : k = xs[i]
    · rw [e]; simp
    · rw [decide_eq_false e]
      exact (beq_eq_false_iff_ne.mpr fun z => e z.symm).symm
  · rw [ht, nub_snoc]
    have hm : (xs.take i).any (· == xs[i]) = true ↔ xs[i] ∈ nubS (xs.take i) := by
      rw [mem_nub, List.any_eq_true]
      constructor
      · rintro ⟨y, hy, e⟩
        rw [← eq_of_beq e]; exact hy
      · exact fun h => ⟨_, h, beq_self_eq_true _⟩
    by_cases hx : xs[i] ∈ nubS (xs.take i)
    · rw [if_pos hx, if_pos (hm.mpr hx)]
    · rw [if_neg hx, if_neg fun z => hx (hm.mp z), List.length_append]
      rfl
section
variable {P : Program} {w : World} {A : Around} {R : Result → Shared → Prop} {J : Addr} {fp wr : List Addr} {Gs : Array GenState → Array GenState → Prop} {n : Nat} {It : Nat → Value → Prop} {Sta : Nat → Shared → Prop}
theorem set_loop (W : WalksS P w A.in1 J fp wr Gs n It Sta) (D : Addr) (hD : D ∉ fp) (xs : List Str) (hx : xs.length = n) (hb : n + 1 < scanBound) (hv : ∀ i v, It i v → ∃ t, v = .str (xs.getD i Str.empty) t) :
    ∀ (m i : Nat) (s : Shared), n - i = m → i ≤ n → Sta i s → s.heap.SetOf (PySem.strKind P w) D (fun k' => (xs.take i).any (· == k')) (nubS (xs.take i)).length →
      (∀ s', Moved (D :: wr) Gs s s' → s'.heap.SetOf (PySem.strKind P w) D (fun k' => (xs.take n).any (· == k')) (nubS (xs.take n)).length → R (.ok (.ret .none)) s') →
      codeAny (model P w) A (.builtin "set.update.loop" ⟨[.ref D, .ref J], []⟩) R s := by
  have hDw : D ∉ wr := fun z => hD (W.sub _ z)
  have up : ∀ b ∈ wr, b ∈ D :: wr := fun b z => List.mem_cons_of_mem _ z
  have stay : ∀ {s s' : Shared} {S : Str → Bool} {c : Nat}, Moved wr Gs s s' → s.heap.SetOf (PySem.strKind P w) D S c → s'.heap.SetOf (PySem.strKind P w) D S c := fun mv ⟨ob, es, ep, tb, ho, more⟩ => ⟨ob, es, ep, tb, mv.heap D _ hDw ho, more⟩
  intro m
  induction m with
  | zero =>
    intro i s hm hle st hS fin
    have e : i = n := by omega
    subst e
    refine codeAny_builtin F.entry_set_update_loop ?_
    rw [Around.under_plainId F.plain_set_update_loop _]
    exact wpAny_bind (W.done s _ _ st fun s' mv => wpAny_pure (fin s' (mv.mono up) (stay mv hS)))
  | succ m ih =>
    intro i s hm hle st hS fin
    have hlt : i < n := by omega
    have hl : i < xs.length := by omega
    refine codeAny_builtin F.entry_set_update_loop ?_
    rw [Around.under_plainId F.plain_set_update_loop _]
    refine wpAny_bind (W.item i s _ _ hlt st fun v s' hit st' mv => ?_)
    obtain ⟨t, rfl⟩ := hv i v hit
    have eg : xs.getD i Str.empty = xs[i] := by
      rw [List.getD_eq_getElem?_getD, List.getElem?_eq_getElem hl]
      rfl
    have hn : (nubS (xs.take i)).length ≤ i := Nat.le_trans (nub_len _) (by rw [List.length_take]; omega)
    have hS1 := stay mv hS
    refine wpAny_bind (wpAny_holding ?_)
    unfold setAdd
    refine wpAny_holding ?_
    refine wpAny_bind ((PySem.strKind P w).pyHash (k := xs.getD i Str.empty) (strKind_is _ _ _ _) ?_)
    refine wpAny_setAddHashed_of (knd := PySem.strKind P w) (s := { s' with toks := s'.toks + 1 }) (strKind_is _ _ _ _) rfl hS1 (by omega) fun h' sb hS2 => ?_
    rw [eg] at hS2
    have hS3 := set_step hl hS2
    refine wpAny_pure ⟨plainId_quiet F.plain_set_update_loop _, ih (i + 1) _ (by omega) hlt (W.frame _ s' _ _ st' (Nat.le_succ _) fun b z o q => ?_) hS3 fun s2 mv2 hS4 => ?_⟩
    · exact (sb.2 b (fun y => hD (y ▸ z))).trans q
    · refine fin s2 (Moved.trans W.gtrans ((mv.mono up).then_heap (Nat.le_succ _) fun b o z q => ?_) mv2) hS4
      exact (sb.2 b (fun y => z (y ▸ List.mem_cons_self))).trans q
end
section
variable {P : Program} {w : World} {A : Around} {E : Value → Shared → Prop} {s : Shared}
abbrev newSet (led : Bool) : Obj := { cls := .type "set", dict := none, data := .set #[] 0 (.fresh 0 0 led) }
theorem call_setS {l : Addr} {items : Array Value} {xs : List Str} {Q : Value → Shared → Prop} (hh : A.handled = none) (hl : s.heap.IsList l items) (hi : StrsAre items.toList xs) (hb : xs.length + 1 < scanBound)
    (h : ∀ (h' : Heap) (tk : Nat), h'.SetOf (PySem.strKind P w) s.heap.objs.size (fun k' => xs.any (· == k')) (nubS xs).length → (∀ b o, b < s.heap.objs.size → s.heap.get? b = some o → h'.get? b = some o) → Q (.ref s.heap.objs.size) { s with heap := h', toks := tk }) :
    wpAny (model P w) A (call (.type "set") [.ref l]) Q E s := by
  obtain ⟨c, tl, g1⟩ := PySem.F.called_set.mro
  have g2 := PySem.F.called_set.made
  have g3 := PySem.F.called_set.sub
  have g4 := PySem.F.called_set.notType
  have g5 := PySem.F.called_set.canCreate
  have g6 := PySem.F.typeCall_set_1 (.ref l)
  refine wpAny_call (codeAny_of_tree (wpAny_pure ⟨Code.quiet_builtin _ (by decide +kernel), codeAny_builtin PySem.F.entry_type_call ?_⟩))
  rw [Around.under_plain (weight_type_call_type "set" [.ref l] []) rfl]
  repeat (any_goals (first | assumption | wp_step))
  refine codeAny_mono (code_set_new_1 (.ref l) (E := E) (Q₁ := fun ob s₁ => ∃ led, ob = .ref s.heap.objs.size ∧ s₁ = { s with heap := s.heap.push (newSet led) }) fun led => ⟨led, rfl, rfl⟩) fun r s₁ hr => ?_
  cases r with
  | error e => exact hr
  | ok fl =>
    cases fl with
    | ret ob =>
      obtain ⟨led, rfl, rfl⟩ := hr
      have a1 : (s.heap.push (newSet led)).get? s.heap.objs.size = some (newSet led) := Heap.get?_push_size _ rfl
      have a2 : Shared.TypeIs { s with heap := s.heap.push (newSet led) } (.ref s.heap.objs.size) "set" := ⟨_, a1, rfl⟩
      have a3 := PySem.F.called_set.init.lookup
      have a4 := PySem.F.called_set.init.bind (.ref s.heap.objs.size)
      repeat (any_goals (first | assumption | wp_step))
      refine codeAny_mono (codeAny_call_builtin (R := wants (fun r s₂ => r = .none ∧ ∃ h' tk, s₂ = { s with heap := h', toks := tk } ∧ h'.SetOf (PySem.strKind P w) s.heap.objs.size (fun k' => xs.any (· == k')) (nubS xs).length ∧ ∀ b o, b < s.heap.objs.size → s.heap.get? b = some o → h'.get? b = some o) E)
        PySem.F.called_set.init.plain PySem.F.entry_set_init (check_set_init_1 a2 ?_)) fun r₂ s₂ hr₂ => ?_
      · have hlS : l < s.heap.objs.size := by
          obtain ⟨ol, hol, _⟩ := id hl
          exact Heap.lt_size hol
        have hl1 : (s.heap.push (newSet led)).IsList l items := hl.push _
        obtain ⟨ol, hol, hcl, nl, hdl⟩ := id hl1
        obtain ⟨ocls, odict, odata, oslots⟩ := ol
        simp only at hcl hdl
        subst hcl hdl
        have f1 := PySem.F.sub_list_set
        have f2 := PySem.F.sub_list_frozenset
        have f3 : (Value.type "list" == Value.type "dict") = false := by decide
        unfold Builtin.«set.__init__» noKeywords Builtin.Frozenset.updateFrom
        generalize hp : pyIter = it
        wp_walk
        subst hp
        refine wpAny_pyIter_list hl1 (wpAny_bind (wpAny_runValue ?_))
        have hlen : xs.length = items.size := by rw [← StrsAre.len_eq hi, Array.length_toList]
        have nI : l ≠ (s.heap.push (newSet led)).objs.size := by
          rw [Heap.size_push]
          exact Nat.ne_of_lt (Nat.lt_succ_of_lt hlS)
        have nD : s.heap.objs.size ∉ [(s.heap.push (newSet led)).objs.size, l] := by
          rw [Heap.size_push]
          simp only [List.mem_cons, List.not_mem_nil, or_false, not_or]
          exact ⟨Nat.ne_of_lt (Nat.lt_succ_self _), Nat.ne_of_gt hlS⟩
        refine set_loop ((Walks.list (show A.in1.in1.in1.handled = none by simp [hh]) _ l nI items).toS) s.heap.objs.size nD xs hlen (by omega) (fun i v q => SS.strs_at hi i v (by rw [Array.getElem?_toList]; exact q)) (items.size - 0) 0 _ (by omega) (Nat.zero_le _) ⟨⟨_, Heap.get?_push_size _ rfl, rfl, rfl⟩, hl1.push _⟩ ?_ ?_
        · refine SetOf_congr ((setObjOf_fresh (knd := PySem.strKind P w) led).setOf (Heap.get?_push_of_some _ a1) (by unfold scanBound; omega)) (fun _ => rfl) rfl
        · intro s' mv hS'
          obtain ⟨h', g', d', tk', os'⟩ := s'
          obtain rfl : g' = s.gens := mv.gens
          obtain rfl : d' = s.drawn := mv.drawn
          obtain rfl : os' = s.os := mv.os
          rw [← hlen, List.take_length] at hS'
          refine wpAny_pure (wpAny_pure ⟨rfl, h', tk', rfl, hS', fun b o q e => ?_⟩)
          refine mv.heap b o ?_ (Heap.get?_push_of_some _ (Heap.get?_push_of_some _ e))
          rw [Heap.size_push]
          simp only [List.mem_cons, List.not_mem_nil, or_false, not_or]
          exact ⟨Nat.ne_of_lt q, Nat.ne_of_lt (Nat.lt_succ_of_lt q)⟩
      · cases r₂ with
        | error e => exact hr₂
        | ok fl₂ =>
          cases fl₂ with
          | ret r =>
            obtain ⟨rfl, h', tk, rfl, hS', hk'⟩ := hr₂
            repeat (any_goals (first | assumption | wp_step))
            exact h _ _ hS' hk'
          | _ => exact hr₂.elim
    | _ => exact hr.elim
end
section
variable {G : Cfg} {C : Sc} {Γ : Fr} {O : Own} {a : Expr} {p1 p2 p3 pos : Pos}
theorem e_lenSet [Calm C] {xs : List Str} (g1 : Glo C "len") (m1 : G.mg "len" = none) (g2 : Glo C "set") (m2 : G.mg "set" = none) (ha : E G C a Γ O (dLst G.K (xs.map dS))) (hn : xs.length < 4000) (hs : ∀ env, starEach [a] env = (false, eval a env) :: starEach [] env) : E G C (.Call (.Name "len" p1) [.Call (.Name "set" p2) [a] [] p3] [] pos) Γ O (dI (nubS xs).length) := .mk fun X c F σ H hh Q q => by
  intro pins s I
  refine Call_ (ld_blt I (c.gl g1) (by rw [c.mg]; exact m1) boot_len ?_)
  refine callWith_builtin1 (args_cons ?_ rfl) rfl rfl
  refine Call_ (ld_blt I (c.gl g2) (by rw [c.mg]; exact m2) boot_set ?_)
  refine callWith_type1 (args_cons (thn (ha.run X c F σ H hh (fun v H1 => ∃ F1, Gw F F1 ∧ Hold F1 Γ O σ H1 ∧ (dLst G.K (xs.map dS)).ok F1 v) (fun F1 H1 v e1 h1 d1 => ⟨F1, e1, h1, d1⟩) pins s I) fun v s1 ⟨u, H1, I1, r1, F1, e1, h1, d1⟩ => args_nil ?_) (hs X.env)) (hs X.env) rfl
  obtain ⟨l, vs, rfl, hl, hal⟩ := d1
  obtain ⟨hv, _⟩ := AllD.dS hal
  subst hv
  cases r1
  have hsq : SqL X.K H1 l (xs.map V.str) := by rw [c.K]; exact gw_l h1.ho.ex hl.sq
  obtain ⟨its, r, pl, _⟩ := I1.list hsq
  have hb : (xs.length) + 1 < scanBound := by unfold scanBound; omega
  refine call_setS (xs := xs) (I1.ok.hd c.cm) pl.isList (by simpa using strsAre_of r) hb fun h' tk hS hk => args_nil ?_
  obtain ⟨o, es, ep, t, ho, hex, hd, _, _, _, hf, hc⟩ := hS
  have I2 : Inv X pins σ H1 { s1 with heap := h', toks := tk } := I1.kept fun b o e => hk b o (Heap.lt_size e) e
  have hn2 := nub_len xs
  refine call_len_set ho hex hd hf (by rw [hc]; omega) ⟨.int (nubS xs).length, H1, I2.tok _, ⟨_, by rw [hc]⟩, q F1 H1 _ e1 h1 rfl⟩
end
end Kn
namespace Kn
open PySem PySem.Spec L2
abbrev Sight := Str × Int × List Str
abbrev Talk := Int × Str × Str × Str
inductive Sy where
  | knew (p : Str) (h : Int)
  | unheard (p : Str) (h : Option Int)
  | silent (p : Str) (a b : Int)
  | barred (p q : Str)
deriving DecidableEq
instance : Inhabited Sy := ⟨.knew "" 0⟩
def Sy.kd : Sy → Str
  | .knew .. => "knew"
  | .unheard .. => "unheard"
  | .silent .. => "silent"
  | .barred .. => "barred"
def Sy.who : Sy → Str
  | .knew p _ => p
  | .unheard p _ => p
  | .silent p _ _ => p
  | .barred p _ => p
def Sy.len : Sy → Int
  | .silent .. => 4
  | _ => 3
def Sy.h1 : Sy → Int
  | .knew _ h => h
  | .silent _ a _ => a
  | _ => 0
def Sy.h2 : Sy → Int
  | .silent _ _ b => b
  | _ => 0
def Sy.ho : Sy → Option Int
  | .unheard _ h => h
  | _ => none
def Sy.other : Sy → Str
  | .barred _ q => q
  | _ => ""
def Sy.ds : Sy → List D
  | .knew p h => [dS "knew", dS p, dI h]
  | .unheard p h => [dS "unheard", dS p, dO dI h]
  | .silent p a b => [dS "silent", dS p, dI a, dI b]
  | .barred p q => [dS "barred", dS p, dS q]
def dSy (K : PySem.W.Frag) (s : Sy) : D := dTup K s.ds
theorem kd_knew {s : Sy} (h : decide (s.kd = ("knew" : Str)) = true) : s = .knew s.who s.h1 := by
  cases s with
  | knew p z => rfl
  | unheard p z => exact absurd (show decide (("unheard" : Str) = ("knew" : Str)) = true from h) (by decide +kernel)
  | silent p a b => exact absurd (show decide (("silent" : Str) = ("knew" : Str)) = true from h) (by decide +kernel)
  | barred p q => exact absurd (show decide (("barred" : Str) = ("knew" : Str)) = true from h) (by decide +kernel)
theorem kd_unheard {s : Sy} (h : decide (s.kd = ("unheard" : Str)) = true) : s = .unheard s.who s.ho := by
  cases s with
  | knew p z => exact absurd (show decide (("knew" : Str) = ("unheard" : Str)) = true from h) (by decide +kernel)
  | unheard p z => rfl
  | silent p a b => exact absurd (show decide (("silent" : Str) = ("unheard" : Str)) = true from h) (by decide +kernel)
  | barred p q => exact absurd (show decide (("barred" : Str) = ("unheard" : Str)) = true from h) (by decide +kernel)
theorem kd_silent {s : Sy} (h : decide (s.kd = ("silent" : Str)) = true) : s = .silent s.who s.h1 s.h2 := by
  cases s with
  | knew p z => exact absurd (show decide (("knew" : Str) = ("silent" : Str)) = true from h) (by decide +kernel)
  | unheard p z => exact absurd (show decide (("unheard" : Str) = ("silent" : Str)) = true from h) (by decide +kernel)
  | silent p a b => rfl
  | barred p q => exact absurd (show decide (("barred" : Str) = ("silent" : Str)) = true from h) (by decide +kernel)
theorem kd_barred {s : Sy} (h : decide (s.kd = ("barred" : Str)) = true) : s = .barred s.who s.other := by
  cases s with
  | knew p z => exact absurd (show decide (("knew" : Str) = ("barred" : Str)) = true from h) (by decide +kernel)
  | unheard p z => exact absurd (show decide (("unheard" : Str) = ("barred" : Str)) = true from h) (by decide +kernel)
  | silent p a b => exact absurd (show decide (("silent" : Str) = ("barred" : Str)) = true from h) (by decide +kernel)
  | barred p q => rfl
section
variable {G : Cfg} {C : Sc} {Γ : Fr} {O : Own} {a : Expr} {pos p1 p2 : Pos} {j : Nat} {s : Sy}
theorem e_sy0 (ha : E G C a Γ O (dSy G.K s)) : E G C (.Subscript a (.Constant (.int 0) j p1) pos) Γ O (dS s.kd) := e_ixT (ds := s.ds) (i := 0) (by cases s <;> rfl) ha e_int (fun _ _ => rfl)
theorem e_sy1 (ha : E G C a Γ O (dSy G.K s)) : E G C (.Subscript a (.Constant (.int 1) j p1) pos) Γ O (dS s.who) := e_ixT (ds := s.ds) (i := 1) (by cases s <;> rfl) ha e_int (fun _ _ => rfl)
theorem e_sy2k (h : decide (s.kd = ("knew" : Str)) = true) (ha : E G C a Γ O (dSy G.K s)) : E G C (.Subscript a (.Constant (.int 2) j p1) pos) Γ O (dI s.h1) := e_ixT (ds := s.ds) (i := 2) (by rw [kd_knew h]; rfl) ha e_int (fun _ _ => rfl)
theorem e_sy2s (h : decide (s.kd = ("silent" : Str)) = true) (ha : E G C a Γ O (dSy G.K s)) : E G C (.Subscript a (.Constant (.int 2) j p1) pos) Γ O (dI s.h1) := e_ixT (ds := s.ds) (i := 2) (by rw [kd_silent h]; rfl) ha e_int (fun _ _ => rfl)
theorem e_sy3s (h : decide (s.kd = ("silent" : Str)) = true) (ha : E G C a Γ O (dSy G.K s)) : E G C (.Subscript a (.Constant (.int 3) j p1) pos) Γ O (dI s.h2) := e_ixT (ds := s.ds) (i := 3) (by rw [kd_silent h]; rfl) ha e_int (fun _ _ => rfl)
theorem e_sy2u (h : decide (s.kd = ("unheard" : Str)) = true) (ha : E G C a Γ O (dSy G.K s)) : E G C (.Subscript a (.Constant (.int 2) j p1) pos) Γ O (dO dI s.ho) := e_ixT (ds := s.ds) (i := 2) (by rw [kd_unheard h]; rfl) ha e_int (fun _ _ => rfl)
theorem e_sy2b (h : decide (s.kd = ("barred" : Str)) = true) (ha : E G C a Γ O (dSy G.K s)) : E G C (.Subscript a (.Constant (.int 2) j p1) pos) Γ O (dS s.other) := e_ixT (ds := s.ds) (i := 2) (by rw [kd_barred h]; rfl) ha e_int (fun _ _ => rfl)
theorem sy_len : (s.ds.length : Int) = s.len := by cases s <;> rfl
theorem k_lenSy : CalR G C (.builtin "len") O [dSy G.K s] (dI s.len) := by
  have h := k_lenT (G := G) (C := C) (O := O) (ds := s.ds)
  rw [sy_len] at h
  exact h
end
def syP : Sy → PyData
  | .knew p h => .tuple [.str "knew", .str p, .int h]
  | .unheard p (some h) => .tuple [.str "unheard", .str p, .int h]
  | .unheard p none => .tuple [.str "unheard", .str p, .none]
  | .silent p a b => .tuple [.str "silent", .str p, .int a, .int b]
  | .barred p q => .tuple [.str "barred", .str p, .str q]
theorem sy_eqv (a b : Sy) : PyData.eqv (syP a) (syP b) = decide (a = b) := by
  have n1 : (("knew" : Str) == "unheard") = false := by decide +kernel
  have n2 : (("knew" : Str) == "silent") = false := by decide +kernel
  have n3 : (("knew" : Str) == "barred") = false := by decide +kernel
  have n4 : (("unheard" : Str) == "knew") = false := by decide +kernel
  have n5 : (("unheard" : Str) == "silent") = false := by decide +kernel
  have n6 : (("unheard" : Str) == "barred") = false := by decide +kernel
  have n7 : (("silent" : Str) == "knew") = false := by decide +kernel
  have n8 : (("silent" : Str) == "unheard") = false := by decide +kernel
  have n9 : (("silent" : Str) == "barred") = false := by decide +kernel
  have n10 : (("barred" : Str) == "knew") = false := by decide +kernel
  have n11 : (("barred" : Str) == "unheard") = false := by decide +kernel
  have n12 : (("barred" : Str) == "silent") = false := by decide +kernel
  cases a with
  | knew p h =>
    cases b with
    | knew p2 h2 => simp only [syP, PyData.eqv, PyData.eqvAll, beq_self_eq_true, Bool.true_and, Bool.and_true, beq_dec, Sy.knew.injEq, Bool.decide_and]
    | unheard p2 h2 => cases h2 <;> simp [syP, PyData.eqv, PyData.eqvAll, n1]
    | silent p2 a2 b2 => simp [syP, PyData.eqv, PyData.eqvAll, n2]
    | barred p2 q2 => simp [syP, PyData.eqv, PyData.eqvAll, n3]
  | unheard p h =>
    cases b with
    | knew p2 h2 => cases h <;> simp [syP, PyData.eqv, PyData.eqvAll, n4]
    | unheard p2 h2 =>
      cases h <;> cases h2 <;> simp only [syP, PyData.eqv, PyData.eqvAll, beq_self_eq_true, Bool.true_and, Bool.and_true, Bool.and_false, beq_dec, Sy.unheard.injEq, Bool.decide_and, Option.some.injEq, reduceCtorEq, decide_false, decide_true]
    | silent p2 a2 b2 => cases h <;> simp [syP, PyData.eqv, PyData.eqvAll, n5]
    | barred p2 q2 => cases h <;> simp [syP, PyData.eqv, PyData.eqvAll, n6]
  | silent p a b' =>
    cases b with
    | knew p2 h2 => simp [syP, PyData.eqv, PyData.eqvAll, n7]
    | unheard p2 h2 => cases h2 <;> simp [syP, PyData.eqv, PyData.eqvAll, n8]
    | silent p2 a2 b2 => simp only [syP, PyData.eqv, PyData.eqvAll, beq_self_eq_true, Bool.true_and, Bool.and_true, beq_dec, Sy.silent.injEq, Bool.decide_and]
    | barred p2 q2 => simp [syP, PyData.eqv, PyData.eqvAll, n9]
  | barred p q =>
    cases b with
    | knew p2 h2 => simp [syP, PyData.eqv, PyData.eqvAll, n10]
    | unheard p2 h2 => cases h2 <;> simp [syP, PyData.eqv, PyData.eqvAll, n11]
    | silent p2 a2 b2 => simp [syP, PyData.eqv, PyData.eqvAll, n12]
    | barred p2 q2 => simp only [syP, PyData.eqv, PyData.eqvAll, beq_self_eq_true, Bool.true_and, Bool.and_true, beq_dec, Sy.barred.injEq, Bool.decide_and]
theorem all3 {F : Hp} {d1 d2 d3 : D} {vs : List V} (h : AllD F [d1, d2, d3] vs) : ∃ v1 v2 v3, vs = [v1, v2, v3] ∧ d1.ok F v1 ∧ d2.ok F v2 ∧ d3.ok F v3 := by
  match vs, h with
  | [v1, v2, v3], h => exact ⟨v1, v2, v3, rfl, h.1, h.2.1, h.2.2.1⟩
  | [], h => exact h.elim
  | [_], h => exact h.2.elim
  | [_, _], h => exact h.2.2.elim
  | _ :: _ :: _ :: _ :: _, h => exact h.2.2.2.elim
theorem all4 {F : Hp} {d1 d2 d3 d4 : D} {vs : List V} (h : AllD F [d1, d2, d3, d4] vs) : ∃ v1 v2 v3 v4, vs = [v1, v2, v3, v4] ∧ d1.ok F v1 ∧ d2.ok F v2 ∧ d3.ok F v3 ∧ d4.ok F v4 := by
  match vs, h with
  | [v1, v2, v3, v4], h => exact ⟨v1, v2, v3, v4, rfl, h.1, h.2.1, h.2.2.1, h.2.2.2.1⟩
  | [], h => exact h.elim
  | [_], h => exact h.2.elim
  | [_, _], h => exact h.2.2.elim
  | [_, _, _], h => exact h.2.2.2.elim
  | _ :: _ :: _ :: _ :: _ :: _, h => exact h.2.2.2.2.elim
theorem dat_sy {K : PySem.W.Frag} : Dat K (dSy K) syP 1 := by
  have ls : ∀ (s : Str) (F : Hp) (v : V), (dS s).ok F v → PyData.strOk s = true := fun s F v h => h.2.1
  refine ⟨fun a F H v e h => ?_, fun a F v h => ?_, fun a => ?_, sy_eqv⟩
  · obtain ⟨x, vs, rfl, h2, h3⟩ := h
    have st : ∀ (s : Str) (v : V), (dS s).ok F v → Dp K H v (.str s) := fun s v h => dat_str.ok s F H v e h
    have it : ∀ (s : Int) (v : V), (dI s).ok F v → Dp K H v (.int s) := fun s v h => dat_int.ok s F H v e h
    cases a with
    | knew p h =>
      obtain ⟨v1, v2, v3, rfl, q1, q2, q3⟩ := all3 h3
      exact .tup (gw_t e h2) (.cons (st _ _ q1) (.cons (st _ _ q2) (.cons (it _ _ q3) .nil)))
    | unheard p h =>
      obtain ⟨v1, v2, v3, rfl, q1, q2, q3⟩ := all3 h3
      cases h with
      | none => exact .tup (gw_t e h2) (.cons (st _ _ q1) (.cons (st _ _ q2) (.cons ((show v3 = .non from q3) ▸ .non) .nil)))
      | some h => exact .tup (gw_t e h2) (.cons (st _ _ q1) (.cons (st _ _ q2) (.cons (it _ _ q3) .nil)))
    | silent p a b =>
      obtain ⟨v1, v2, v3, v4, rfl, q1, q2, q3, q4⟩ := all4 h3
      exact .tup (gw_t e h2) (.cons (st _ _ q1) (.cons (st _ _ q2) (.cons (it _ _ q3) (.cons (it _ _ q4) .nil))))
    | barred p q =>
      obtain ⟨v1, v2, v3, rfl, q1, q2, q3⟩ := all3 h3
      exact .tup (gw_t e h2) (.cons (st _ _ q1) (.cons (st _ _ q2) (.cons (st _ _ q3) .nil)))
  · obtain ⟨x, vs, rfl, h2, h3⟩ := h
    cases a with
    | knew p h =>
      obtain ⟨v1, v2, v3, rfl, q1, q2, q3⟩ := all3 h3
      simp only [syP, PyData.canLay0, PyData.canLayAll0, ls _ _ _ q1, ls _ _ _ q2, Bool.and_self]
    | unheard p h =>
      obtain ⟨v1, v2, v3, rfl, q1, q2, q3⟩ := all3 h3
      cases h <;> simp only [syP, PyData.canLay0, PyData.canLayAll0, ls _ _ _ q1, ls _ _ _ q2, Bool.and_self]
    | silent p a b =>
      obtain ⟨v1, v2, v3, v4, rfl, q1, q2, q3, q4⟩ := all4 h3
      simp only [syP, PyData.canLay0, PyData.canLayAll0, ls _ _ _ q1, ls _ _ _ q2, Bool.and_self]
    | barred p q =>
      obtain ⟨v1, v2, v3, rfl, q1, q2, q3⟩ := all3 h3
      simp only [syP, PyData.canLay0, PyData.canLayAll0, ls _ _ _ q1, ls _ _ _ q2, ls _ _ _ q3, Bool.and_self]
  · cases a with
    | unheard p h => cases h <;> simp [syP, PyData.depth, PyData.depthAll]
    | _ => simp [syP, PyData.depth, PyData.depthAll]
theorem t_eq {G : Cfg} {C : Sc} {Γ : Fr} {O : Own} {e : Expr} {b b' : Bool} (h : T G C e Γ O b) (q : b = b') : T G C e Γ O b' := q ▸ h
structure BookV where
  crew : List Str
  views : List Sight
  meetings : List Talk
  claims : List Sy
abbrev bookNs : List Str := ["crew", "views", "meetings", "claims"]
abbrev dSight (K : PySem.W.Frag) : Sight → D := dT3 K dS dI (dVt K dS)
abbrev dTalk (K : PySem.W.Frag) : Talk → D := dT4 K dI dS dS dS
abbrev bookDs (K : PySem.W.Frag) (b : BookV) : List D := [dLo K dS b.crew, dLo K (dSight K) b.views, dLo K (dTalk K) b.meetings, dLo K (dSy K) b.claims]
abbrev dBook (G : Cfg) (b : BookV) : D := dIns G "Book" bookNs (bookDs G.K b)
end Kn
namespace Kn
open PySem PySem.Spec L2
theorem loop_all {α : Type} (p : α → Bool) : ∀ xs : List α, loopL (R := Bool) (fun (_ : Unit) (x : α) => if (!p x) = true then Ret.rt false else Ret.nx ()) xs () = if xs.all p = true then Ret.nx () else Ret.rt false
  | [] => by simp only [loopL, List.all_nil, if_true]
  | x :: xs => by
    have ih := loop_all p xs
    rw [List.all_cons, loopL]
    cases h : p x with
    | true =>
      simp only [Bool.not_true, Bool.true_and]
      exact ih
    | false => simp only [Bool.not_false, Bool.false_and, if_true, Bool.false_eq_true, if_false]
theorem foldl_keep {S α : Type} {P : S → Prop} {f : S → α → S} (h : ∀ s x, P s → P (f s x)) : ∀ {xs : List α} {s0 : S}, P s0 → P (xs.foldl f s0)
  | [], _, p => p
  | x :: xs, s0, p => foldl_keep h (xs := xs) (h s0 x p)
theorem foldl_keepM {S α : Type} {P : S → Prop} {f : S → α → S} : ∀ {xs : List α} {s0 : S}, (∀ s x, x ∈ xs → P s → P (f s x)) → P s0 → P (xs.foldl f s0)
  | [], _, _, p => p
  | x :: xs, s0, h, p => foldl_keepM (xs := xs) (fun s y hy => h s y (List.mem_cons_of_mem _ hy)) (h s0 x List.mem_cons_self p)
theorem foldl_app {α β : Type} {f : α → List β} : ∀ {xs : List α} {s0 : List β}, xs.foldl (fun s x => s ++ f x) s0 = s0 ++ xs.flatMap f
  | [], s0 => by simp
  | x :: xs, s0 => by
    rw [List.foldl_cons, foldl_app, List.flatMap_cons, List.append_assoc]
theorem put_has {α : Type} {v : α} : ∀ {xs : List Str} {s0 : List (Str × α)} {p : Str}, (p ∈ xs ∨ dHas s0 p = true) → dHas (xs.foldl (fun s x => dPut s x v) s0) p = true
  | [], _, _, h => h.elim (fun z => nomatch z) id
  | x :: xs, s0, p, h => by
    refine put_has (xs := xs) ?_
    rw [has_put]
    rcases h with h | h
    · rcases List.mem_cons.mp h with e | h
      · exact .inr (by rw [decide_eq_true e]; rfl)
      · exact .inl h
    · exact .inr (by rw [h, Bool.or_true])
theorem nub_nodup : ∀ {xs : List Str}, xs.Nodup → nubS xs = xs := by
  have go : ∀ (n : Nat) (ys : List Str), ys.length = n → ys.Nodup → nubS ys = ys := by
    intro n
    induction n with
    | zero =>
      intro ys h _
      rw [List.length_eq_zero_iff.mp h]
      rfl
    | succ n ih =>
      intro ys h nd
      have hne : ys ≠ [] := fun e => by rw [e] at h; cases h
      have e := List.dropLast_concat_getLast hne
      have hl : ys.dropLast.length = n := by rw [List.length_dropLast, h]; rfl
      rw [← e] at nd
      have nd2 := List.nodup_append.mp nd
      have ih' := ih _ hl nd2.1
      have hm : ys.getLast hne ∉ nubS ys.dropLast := by
        rw [ih']
        exact fun z => nd2.2.2 _ z _ List.mem_cons_self rfl
      rw [← e, nub_snoc, if_neg hm, ih']
  exact fun {xs} h => go _ xs rfl h
theorem cut_sub {α : Type} {xs : List α} {i j : Option Int} : (cut xs i j).Sublist xs := (List.take_sublist _ _).trans (List.drop_sublist _ _)
theorem mem_cut {α : Type} {xs : List α} {i j : Option Int} {x : α} (h : x ∈ cut xs i j) : x ∈ xs := cut_sub.subset h
theorem nth_inj {α : Type} [Inhabited α] {xs : List α} {i j : Int} (nd : xs.Nodup) (hi : 0 ≤ i ∧ i < xs.length) (hj : 0 ≤ j ∧ j < xs.length) (e : nth xs i = nth xs j) : i = j := by
  rw [nth_nat hi.1 hi.2, nth_nat hj.1 hj.2] at e
  have := (List.getElem_inj nd).mp e
  omega
theorem mod_step {n r L : Int} (h1 : 0 ≤ r ∧ r < L - 1) (hL : 1 < L) : (n % L + 1 + r) % L ≠ n % L := by
  have a := Int.emod_nonneg n (b := L) (by omega)
  have b := Int.emod_lt_of_pos n (b := L) (by omega)
  by_cases h : n % L + 1 + r < L
  · rw [Int.emod_eq_of_lt (by omega) h]
    omega
  · have e : n % L + 1 + r = (n % L + 1 + r - L) + L := by omega
    rw [e, Int.add_emod_right, Int.emod_eq_of_lt (by omega) (by omega)]
    omega
theorem tl_app (a b : Str) : (a ++ b).cps.toList = a.cps.toList ++ b.cps.toList := by
  show (a.cps ++ b.cps).toList = _
  exact Array.toList_append
theorem len_tl (a : Str) : a.length = a.cps.toList.length := by
  rw [Array.length_toList]
  rfl
theorem tl_sign {z : Str} {i : Int} : (signAt z i).cps.toList = [nth z.cps.toList i] := rfl
theorem upto_pair {n : Int} {R : Int → Int → Prop} (h : ∀ i j, 0 ≤ i → i < j → j < n → R i j) : (upto n).Pairwise R := by
  unfold upto
  rw [List.pairwise_map]
  refine List.Pairwise.imp_of_mem (R := fun a b => a < b) (fun ha hb hab => ?_) List.pairwise_lt_range
  have h1 := List.mem_range.mp ha
  have h2 := List.mem_range.mp hb
  exact h _ _ (by omega) (by omega) (by omega)
end Kn
namespace Kn
open PySem PySem.Spec L2
theorem Var.at {N : List Str} {sc : Scope} {top cl cl' : Bool} {k k' : Nat} {i : Nat} {x : Str} (v : Var ⟨k, N, sc, top, cl⟩ i x) : Var ⟨k', N, sc, top, cl'⟩ i x := ⟨v.n, v.v, v.d, v.c⟩
theorem Loca.at {N : List Str} {sc : Scope} {top cl cl' : Bool} {k k' : Nat} {i : Nat} {x : Str} (v : Loca ⟨k, N, sc, top, cl⟩ i x) : Loca ⟨k', N, sc, top, cl'⟩ i x := ⟨v.n, v.nd, v.l, v.f⟩
theorem Glo.at {N : List Str} {sc : Scope} {top cl cl' : Bool} {k k' : Nat} {x : Str} (v : Glo ⟨k, N, sc, top, cl⟩ x) : Glo ⟨k', N, sc, top, cl'⟩ x := v
def Va.items : Va → List Va
  | .lst xs => xs
  | .tup xs => xs
  | _ => []
section
variable {G : Cfg} {C : Sc} {Γ : Fr} {O : Own} {S1 R B : Type} {kk : Ek S1 R} {oo : Out S1 R} {e a b c : Expr} {es : List Expr} {d da db : D} {ds es' : List D} {ss : List Stmt} {pos p1 p2 p3 : Pos} {x : Str} {α β : Type} {f : α → D} {g : β → D} {n : Nat} {p : Addr}
def oAny : OD := ⟨fun _ o => ∃ vs, o = .lst vs, fun _ h => h⟩
theorem ss_appX {xs : List D} (hk : O[n]? = some (p, oLst xs)) (ha : E G C a Γ O (dP p)) (h : E G C e Γ O d) (hz : xs.length < 16000000) (hb : ∀ env, attributeBase a "append" env (eval a env) = eval a env) (hl : (p1.endLine == p2.line) = true) (hs : ∀ env, starEach [e] env = (false, eval e env) :: starEach [] env)
    (hr : SS G C ss Γ (O.set n (p, oAny)) kk oo) : SS G C (.Expr (.Call (.Attribute a "append" p1) [e] [] p2) pos :: ss) Γ O kk oo :=
  ss_cons (t := fun X => tDrop (tBM X.K "list" rAppend (WE X a) (tCons (WE X e) tNil))) (fun X c => ps_expr (pe_bm PySem.F.plainAttrs_list PySem.F.slot_list_append PySem.F.type_list_append mt_append pe_can (pa_cons pe_can pa_nil (hs X.env)) (hb X.env) (by rw [hs]; rfl) hl (hs X.env) rfl))
    fun X c W tk F σ H hh D m => by
      refine ha.run X c F σ H hh _ fun F1 H1 v e1 h1 d1 => ?_
      have d1' : v = .ref p := d1
      subst d1'
      obtain ⟨_, o, hp, vs, rfl, _⟩ := h1.ho.at hk
      refine ⟨.inl ⟨rfl, vs, SqL.of hp⟩, h.run X c F1 σ H1 h1 _ fun F2 H2 u e2 h2 d2 => ?_⟩
      obtain ⟨_, o2, hp2, us, rfl, hal⟩ := h2.ho.at hk
      refine ⟨p, us, u, rfl, rfl, hp2, ?_, ?_⟩
      · rw [AllD.length hal]
        have : (sizeLine : Nat) = 16777216 := by rw [sizeLine_eq]
        omega
      · exact hr.run X c W tk F2 σ _ ⟨h2.fr, h2.ho.write hk ⟨_, rfl⟩⟩ D (meet.mono (e1.trans e2) m)
end
end Kn
namespace Kn
end Kn
namespace Kn
open PySem PySem.Spec L2
theorem HoldO.all (H : Hp) : HoldO H [] H := ⟨Gw.refl H, List.nodup_nil, fun _ h => (nomatch h)⟩
theorem HoldO.back {F : Hp} {O : Own} {H H' : Hp} (h : HoldO F O H) (e : Gw H H') : HoldO F O H' := ⟨h.ex.trans e, h.nd, fun q hq => by
  obtain ⟨h1, o, h2, h3⟩ := h.ow q hq
  exact ⟨h1, o, e q.1 o h2, h3⟩⟩
structure Cv1 (O : Own) (d d' : D) : Prop where
  to : ∀ (F H : Hp) (v : V), HoldO F O H → d.ok F v → d'.ok H v
structure Cv (O : Own) (ds ds' : List D) : Prop where
  to : ∀ (F H : Hp) (vs : List V), HoldO F O H → AllD F ds vs → AllD H ds' vs
def Free (d : D) : Prop := ∀ (F F' : Hp) (v : V), d.ok F v → d.ok F' v
theorem free_V {v : V} : Free (dV v) := fun _ _ _ h => h
section
variable {G : Cfg} {C : Sc} {Γ : Fr} {O : Own} {e : Expr} {es : List Expr} {d d' d'' da db da' db' : D} {ds ds' : List D} {pos p1 : Pos} {x : Str} {S : SpecD} {k n : Nat} {p : Addr} {op : CmpOp} {b : Bool} {f : Value}
theorem cv1_same : Cv1 O d d := ⟨fun F H v h q => d.mono h.ex q⟩
theorem cv1_own (hk : O[n]? = some (p, oLst ds)) : Cv1 O (dP p) (dLst G.K ds) := ⟨fun F H v h q => by
  obtain ⟨_, o, hp, vs, rfl, ha⟩ := h.at hk
  exact ⟨p, vs, q, .inl (Rd.of hp), ha.mono h.ex⟩⟩
theorem cv_nil : Cv O [] [] := ⟨fun F H vs h q => by
  cases vs with
  | nil => trivial
  | cons v vs => exact q.elim⟩
theorem cv_cons (h : Cv1 O d d') (hs : Cv O ds ds') : Cv O (d :: ds) (d' :: ds') := ⟨fun F H vs hh q => by
  cases vs with
  | nil => exact q.elim
  | cons v vs => exact ⟨h.to F H v hh q.1, hs.to F H vs hh q.2⟩⟩
theorem c_bor (h : CmpR G C op [] da' db' b) (ca : Cv1 O da da') (cb : Cv1 O db db') : CmpR G C op O da db b := ⟨fun X c => by
  obtain ⟨r, ho, hr⟩ := h.ex X c
  refine ⟨r, ho, fun F H v u hh h1 h2 Q q => hr H H v u (HoldO.all H) (ca.to F H v hh h1) (cb.to F H u hh h2) Q fun F' H' z e1 h3 d3 => ?_⟩
  exact q F H' z (Gw.refl F) (hh.back (e1.trans h3.ex)) d3⟩
theorem k_bor (h : CalR G C f [] ds' d) (fr : Free d) (cv : Cv O ds ds') : CalR G C f O ds d := ⟨fun X c => by
  obtain ⟨r, ho, hr⟩ := h.ex X c
  refine ⟨r, ho, fun F H vs hh h1 Q q => hr H H vs (HoldO.all H) (cv.to F H vs hh h1) Q fun F' H' z e1 h3 d3 => ?_⟩
  exact q F H' z (Gw.refl F) (hh.back (e1.trans h3.ex)) (fr F' F z d3)⟩
end
end Kn
namespace Kn
open PySem PySem.Spec L2
section
variable {G : Cfg} {C : Sc} {Γ : Fr} {O : Own} {a : Expr} {d : D} {pos p1 p2 p3 : Pos} {p : Addr} {od : OD}
theorem rk_drop {F : Hp} {v : V} {H : Hp} (h : (RK.val d ((p, od) :: O)).ok F v H) : (RK.val d O).ok F v H := by
  obtain ⟨F', e, h2, d2⟩ := h
  exact ⟨F', e, h2.drop, d2⟩
end
end Kn
namespace Kn
end Kn
namespace Kn
open PySem PySem.Spec L2
abbrev kT (p : Str × Str) : List Key := [kS p.1, kS p.2]
theorem kT_inj {a b : Str × Str} : kT a = kT b ↔ a = b := by
  obtain ⟨a1, a2⟩ := a
  obtain ⟨b1, b2⟩ := b
  constructor
  · intro h
    injection h with h1 h2
    injection h2 with h2 _
    have e1 : a1 = b1 := kS_inj.mp h1
    have e2 : a2 = b2 := kS_inj.mp h2
    rw [e1, e2]
  · intro h
    rw [h]
def dKT (p : Str × Str) : D := ⟨fun F v => ∃ a, v = .ref a ∧ F a = some (.tup [.str p.1, .str p.2]), fun e ⟨a, h1, h2⟩ => ⟨a, h1, e a _ h2⟩⟩
def oDt {α : Type} (f : α → D) (kvs : List ((Str × Str) × α)) : OD := ⟨fun F o => ∃ us, o = .dT us ∧ AllK F kT f kvs us, fun e ⟨us, h1, h2⟩ => ⟨us, h1, h2.mono e⟩⟩
def dDt {α : Type} (f : α → D) (kvs : List ((Str × Str) × α)) : D := ⟨fun F v => ∃ a us od, v = .ref a ∧ F a = some (.frz od (.dT us)) ∧ AllK F kT f kvs us, fun e ⟨a, us, od, h1, h2, h3⟩ => ⟨a, us, od, h1, e a _ h2, h3.mono e⟩⟩
section
variable {G : Cfg} {C : Sc} {Γ : Fr} {O : Own} {S1 R B : Type} {kk : Ek S1 R} {oo : Out S1 R} {e a b c : Expr} {es : List Expr} {d da db : D} {ss : List Stmt} {pos p1 p2 p3 : Pos} {x : Str} {α : Type} {f : α → D} {kvs : List ((Str × Str) × α)} {key : Str × Str} {n : Nat} {p : Addr}
theorem e_keyT {u v : Str} {k : Nat} (ha : E G C a Γ O (dS u)) (hb : E G C b Γ O (dS v)) (hs : ∀ env, starEach [a, b] env = (false, eval a env) :: starEach [b] env) (hs2 : ∀ env, starEach [b] env = (false, eval b env) :: starEach [] env) : E G C (.Tuple [a, b] k pos) Γ O (dKT (u, v)) := .mk fun X c F σ H hh Q q => by
  refine we_of (pe_tup (pa_cons pe_can (pa_cons pe_can pa_nil (hs2 X.env)) (hs X.env))) (ha.run X c F σ H hh _ fun F1 H1 w e1 h1 d1 => hb.run X c F1 σ H1 h1 _ fun F2 H2 z e2 h2 d2 => ⟨?_, fun p hp => ?_⟩)
  · rw [sizeLine_eq]; exact Nat.le_of_ble_eq_true rfl
  · obtain ⟨h3, e3⟩ := h2.ho.laid (o := .tup [w, z]) hp
    refine q _ _ _ ((e1.trans e2).trans e3) (h2.mono e3 h3) ⟨p, rfl, ?_⟩
    rw [upd_same, d1.1, d2.1]
theorem en_dit0 : EN G C (.Dict [] [] pos) Γ O (oDt f []) := .mk fun X c F σ H hh Q q => by
  refine we_of pe_dnewT fun p hp => ?_
  exact q F _ p (Gw.refl F) ⟨hh.fr, hh.ho.own hp ⟨[], rfl, trivial⟩⟩
theorem freeze_dit {F : Hp} {H : Hp} (h : HoldO F ((p, oDt f kvs) :: O) H) : ∃ u, H p = some u ∧ Mut (some u) ∧ ∀ od, Gw F (upd F p (.frz od u)) ∧ HoldO (upd F p (.frz od u)) O (upd H p (.frz od u)) ∧ (dDt f kvs).ok (upd F p (.frz od u)) (.ref p) := by
  obtain ⟨o, hp, ⟨us, rfl, ha⟩, _, _⟩ := h.freeze
  refine ⟨_, hp, trivial, fun od => ?_⟩
  obtain ⟨h1, h2⟩ := gw_lock (o := .dT us) h (.frz od (.dT us))
  exact ⟨h2, h1, p, us, od, rfl, upd_same, ha.mono h2⟩
theorem en_dit (h : EN G C e Γ O (oDt f kvs)) : E G C e Γ O (dDt f kvs) := .mk fun X c F σ H hh Q q => by
  refine we_ghost (Q0 := fun v H' => ∃ F' p, Gw F F' ∧ v = .ref p ∧ Hold F' Γ ((p, oDt f kvs) :: O) σ H') (h.run X c F σ H hh _ fun F' H' p e1 h1 => ⟨F', p, e1, rfl, h1⟩) fun pins s v H' I ⟨F', p, e1, hv, h1⟩ => ?_
  subst hv
  obtain ⟨u, hp, mu, hz⟩ := freeze_dit h1.ho
  obtain ⟨od, I'⟩ := I.lock hp mu
  obtain ⟨e2, h2, d2⟩ := hz od
  exact ⟨_, I', q _ _ _ (e1.trans e2) ⟨h1.fr.mono e2, h2⟩ d2⟩
theorem ss_putT {y : α} {g : List ((Str × Str) × α) → B} (ι : B → Out S1 R) (hk : O[n]? = some (p, oDt f kvs)) (ha : E G C a Γ O (dP p)) (hb : E G C b Γ O (dKT key)) (h : E G C e Γ O (f y)) (hz : kvs.length < 16000000) (hs : ∀ env, swapsWith e (some (.Subscript a b p1)) pos.line env = pure false)
    (hr : ∀ ys, ys = dPut kvs key y → SS G C ss Γ (O.set n (p, oDt f ys)) kk (ι (g ys))) : SS G C (.Assign [.Subscript a b p1] e pos :: ss) Γ O kk (ι (lt (dPut kvs key y) g)) :=
  ss_cons (t := fun X => sDPut (WE X a) (WE X b) (WE X e)) (fun X c => ps_dput (by have := c.un; omega) pe_can pe_can pe_can (hs X.env)) fun X c W tk F σ H hh D m => by
    refine h.run X c F σ H hh _ fun F1 H1 u e1 h1 d1 => ?_
    refine ha.run X c F1 σ H1 h1 _ fun F2 H2 v e2 h2 d2 => ?_
    refine hb.run X c F2 σ H2 h2 _ fun F3 H3 w e3 h3 d3 => ?_
    obtain ⟨_, o, hp, us, rfl, hal⟩ := h3.ho.at hk
    have d2' : v = .ref p := d2
    subst d2'
    obtain ⟨q, rfl, hq⟩ := d3
    have hlen := hal.length
    refine ⟨p, _, rfl, .t (k := kT key) hp (h3.ho.ex q _ hq) (by rw [hlen, sizeLine_eq]; omega), ?_⟩
    exact (hr _ rfl).run X c W tk F3 σ _ ⟨h3.fr, h3.ho.write hk ⟨_, rfl, hal.put (fun _ _ => kT_inj) ((f y).mono (e2.trans e3) d1)⟩⟩ D (meet.mono ((e1.trans e2).trans e3) m)
theorem dgetT_of {F H : Hp} {us : List (List Key × V)} {q : Addr} (hp : Rd H p (.dT us)) (hal : AllK F kT f kvs us) (hq : H q = some (.tup [.str key.1, .str key.2])) : ∃ o, DGet H p (.ref q) o ∧ o.isSome = dHas kvs key := by
  refine ⟨_, dgetTu (k := kT key) hp hq, ?_⟩
  rw [dHas_find]
  cases hz : dFind kvs key with
  | none => rw [(hal.find (fun _ _ => kT_inj) (k := key)).2 hz]; rfl
  | some t =>
    obtain ⟨u, hu, _⟩ := (hal.find (fun _ _ => kT_inj) (k := key)).1 t hz
    rw [hu]; rfl
end
def SD.some' {A : Type} (f : A → SD) : SD := ⟨fun F σ H => ∃ a, (f a).ok F σ H, fun e ⟨a, h⟩ => ⟨a, (f a).anti e h⟩⟩
section
variable {G : Cfg} {C : Sc} {Γ : Fr} {O : Own} {P : Own → Prop} {S S1 R B A : Type} {k : Ek S R} {o : Out S R} {it tg : Expr} {ds : List D} {ss body : List Stmt} {pos : Pos} {α : Type} {is : List Nat}
theorem ss_foldX [Calm C] {df : α → D} {xs : List α} {f : S1 → α → S1} {s0 : S1} {a0 : A} {g : S1 → B} (ι : B → Out S R) (Γ1 : Fr) (Γ2 : α → Fr) (O1 : S1 → A → Own) (hi : EI G C tg it Γ O P (xs.map df)) (l0 : FrLe Γ Γ1) (o0 : O = O1 s0 a0) (hP : ∀ s a, P (O1 s a))
    (hg : ∀ x, TJ G C tg (df x) Γ1 (Γ2 x) is)
    (hb : ∀ s a x pre post, xs = pre ++ x :: post → s = pre.foldl f s0 → SS G C body (Γ2 x) (O1 s a) (k.to fun s => SD.some' fun a => SD.of Γ1 (O1 s a)) (.nx (f s x)))
    (hr : ∀ s a, s = xs.foldl f s0 → SS G C ss Γ1 (O1 s a) k (ι (g s))) (hs : ∀ env x, foldedSetIterable it env x = pure x) : SS G C (.For tg it body [] pos :: ss) Γ O k (ι (lt (xs.foldl f s0) g)) :=
  ss_cons (t := fun X => tFor (WI X tg it) (WG X tg) (WSs X body)) (fun X c => ps_for c.po c.cm pi_can pg_can pss_can (hs X.env)) fun X c W tk F σ H hh D m => by
    refine hi.run X c F σ H hh _ fun J F1 H1 e1 h1 fd => ?_
    refine ⟨fun i mm σ' H' => ∃ a F', mm = xs.length - i ∧ i ≤ xs.length ∧ Gw F1 F' ∧ Hold F' Γ1 (O1 ((xs.take i).foldl f s0) a) σ' H', ⟨xs.length, a0, F1, rfl, Nat.zero_le _, Gw.refl _, h1.fr.le l0, o0 ▸ h1.ho⟩, ?_⟩
    rintro i mm σ' H' ⟨a, F', rfl, hil, e2, h2⟩
    by_cases hlt : i < xs.length
    · have hd : (xs.map df)[i]? = some (df xs[i]) := by rw [List.getElem?_map, List.getElem?_eq_getElem hlt]; rfl
      have hsplit : xs = xs.take i ++ xs[i] :: xs.drop (i + 1) := by
        have a := List.take_append_drop i xs
        rw [List.drop_eq_getElem_cons hlt] at a
        exact a.symm
      have itm := fd.item i _ hd F' _ H' (hP _ a) e2 h2.ho
      refine .inr ⟨itm.1, fun σ3 H3 => ∃ a3 F3, Gw F1 F3 ∧ Hold F3 Γ1 (O1 ((xs.take (i + 1)).foldl f s0) a3) σ3 H3, ?_, fun x H3 hy => ?_⟩
      · rintro σ3 H3 ⟨a3, F3, x3, h3⟩
        exact ⟨xs.length - (i + 1), by omega, a3, F3, rfl, hlt, x3, h3⟩
      · obtain ⟨F3, e3, h3, d3⟩ := itm.2 x H3 hy
        refine (hg xs[i]).run X c F3 _ σ' H3 x ⟨h2.fr.mono e3, h3⟩ d3 _ fun σ4 h4 _ => ?_
        refine (hb _ a xs[i] (xs.take i) (xs.drop (i + 1)) hsplit rfl).run X c W tk F3 σ4 H3 h4 _ ?_
        intro σ5 H5 q
        obtain ⟨a5, F5, e5, h5⟩ := q
        refine ⟨a5, F5, (e2.trans e3).trans e5, ?_⟩
        have ht : xs.take (i + 1) = xs.take i ++ [xs[i]] := List.take_succ_eq_append_getElem hlt
        rw [ht, List.foldl_append]
        exact h5
    · have hi' : i = xs.length := by omega
      subst hi'
      refine .inl ⟨?_, ?_⟩
      · have q := fd.stop F' _ H' (hP _ a) e2 h2.ho
        rw [List.length_map] at q
        exact q
      · rw [List.take_length] at h2
        exact (hr _ a rfl).run X c W tk F' σ' H' h2 D (meet.mono (e1.trans e2) m)
end
section
variable {α : Type}
def ksOf (kvs : List (Str × List α)) : List Str := kvs.map Prod.fst
theorem ksOf_cons {q : Str × List α} {kvs : List (Str × List α)} : ksOf (q :: kvs) = q.1 :: ksOf kvs := rfl
theorem ksOf_app {a b : List (Str × List α)} : ksOf (a ++ b) = ksOf a ++ ksOf b := List.map_append
theorem ksOf_len {kvs : List (Str × List α)} : (ksOf kvs).length = kvs.length := List.length_map _
def dApp (kvs : List (Str × List α)) (k : Str) (y : α) : List (Str × List α) := if dHas kvs k then kvs.map (fun q => if q.1 = k then (q.1, q.2 ++ [y]) else q) else kvs ++ [(k, [y])]
def oGd (kvs : List (Str × List α)) (as : List Addr) : OD := ⟨fun F o => as.length = kvs.length ∧ ((ksOf kvs).Nodup ∧ ∀ q ∈ kvs, okS q.1) ∧ ∃ us, o = .dK us ∧ AllK F kS dP ((ksOf kvs).zip as) us, fun e ⟨h1, h2, us, h3, h4⟩ => ⟨h1, h2, us, h3, h4.mono e⟩⟩
def ents (f : α → D) (kvs : List (Str × List α)) (as : List Addr) : Own := (as.zip kvs).map fun q => (q.1, oLst (q.2.2.map f))
def grp (p : Addr) (f : α → D) (kvs : List (Str × List α)) (as : List Addr) (O : Own) : Own := (p, oGd kvs as) :: (ents f kvs as ++ O)
theorem zip_find : ∀ {kvs : List (Str × List α)} {as : List Addr} {k : Str} {a : Addr}, as.length = kvs.length → dFind ((ksOf kvs).zip as) k = some a → ∃ (j : Nat) (q : Str × List α), kvs[j]? = some q ∧ as[j]? = some a ∧ q.1 = k
  | [], _, _, _, _, h => by simp [ksOf, dFind] at h
  | _ :: _, [], _, _, h, _ => by simp at h
  | q :: kvs, b :: as, k, a, hl, h => by
    rw [ksOf_cons, List.zip_cons_cons, dFind] at h
    by_cases e : q.1 = k
    · rw [if_pos e] at h
      cases h
      exact ⟨0, q, rfl, rfl, e⟩
    · rw [if_neg e] at h
      obtain ⟨j, r, h1, h2, h3⟩ := zip_find (by simpa using hl) h
      exact ⟨j + 1, r, by simpa using h1, by simpa using h2, h3⟩
theorem zip_has : ∀ {kvs : List (Str × List α)} {as : List Addr} {k : Str}, as.length = kvs.length → dHas ((ksOf kvs).zip as) k = dHas kvs k
  | [], _, _, _ => by simp [ksOf, dHas]
  | _ :: _, [], _, h => by simp at h
  | q :: kvs, b :: as, k, hl => by
    have ih := zip_has (kvs := kvs) (as := as) (k := k) (by simpa using hl)
    unfold dHas at ih ⊢
    rw [ksOf_cons, List.zip_cons_cons, List.any_cons, List.any_cons, ih]
theorem dHas_iff {κ β : Type} [DecidableEq κ] {kvs : List (κ × β)} {k : κ} : dHas kvs k = true ↔ k ∈ kvs.map Prod.fst := by
  unfold dHas
  rw [List.any_eq_true, List.mem_map]
  constructor
  · rintro ⟨q, h1, h2⟩
    exact ⟨q, h1, of_decide_eq_true h2⟩
  · rintro ⟨q, h1, h2⟩
    exact ⟨q, h1, decide_eq_true h2⟩
theorem dApp_keys {kvs : List (Str × List α)} {k : Str} {y : α} (h : dHas kvs k = true) : ksOf (dApp kvs k y) = ksOf kvs := by
  unfold dApp ksOf
  rw [if_pos h, List.map_map]
  refine List.map_congr_left fun q _ => ?_
  show (if q.1 = k then (q.1, q.2 ++ [y]) else q).1 = q.1
  split <;> rfl
theorem dApp_new {kvs : List (Str × List α)} {k : Str} {y : α} (h : dHas kvs k = false) : dApp kvs k y = kvs ++ [(k, [y])] := by
  unfold dApp
  rw [h]
  rfl
theorem okS_dapp {kvs : List (Str × List α)} {k : Str} {y : α} (h : ∀ q ∈ kvs, okS q.1) (hk : okS k) : ∀ q ∈ dApp kvs k y, okS q.1 := by
  intro q hq
  unfold dApp at hq
  split at hq
  · obtain ⟨r, hr, rfl⟩ := List.mem_map.mp hq
    split
    · exact h r hr
    · exact h r hr
  · rcases List.mem_append.mp hq with hq | hq
    · exact h q hq
    · rw [List.mem_singleton.mp hq]; exact hk
theorem ents_set {f : α → D} {kvs : List (Str × List α)} {as : List Addr} {k : Str} {y : α} {j : Nat} {q : Str × List α} {a : Addr} (nd : (ksOf kvs).Nodup) (hl : as.length = kvs.length) (h1 : kvs[j]? = some q) (h2 : as[j]? = some a) (h3 : q.1 = k) (hh : dHas kvs k = true) : (ents f kvs as).set j (a, oLst ((q.2 ++ [y]).map f)) = ents f (dApp kvs k y) as := by
  have hj : j < kvs.length := (List.getElem?_eq_some_iff.mp h1).1
  unfold ents dApp
  rw [if_pos hh]
  refine List.ext_getElem? fun i => ?_
  by_cases hi : j = i
  · subst hi
    rw [List.getElem?_set_self (by rw [List.length_map, List.length_zip]; omega), List.getElem?_map, List.getElem?_zip_eq_some (z := (a, (q.1, q.2 ++ [y]))).mpr ⟨h2, (by rw [List.getElem?_map, h1]; show some (if q.1 = k then _ else _) = _; rw [if_pos h3])⟩]
    rfl
  · rw [List.getElem?_set_ne hi, List.getElem?_map, List.getElem?_map]
    by_cases hlt : i < kvs.length
    · have e1 : as[i]? = some (as[i]'(by omega)) := List.getElem?_eq_getElem _
      have e2 : kvs[i]? = some kvs[i] := List.getElem?_eq_getElem hlt
      have hne : ¬ kvs[i].1 = k := fun e => by
        have a1 : (ksOf kvs)[i]'(by rw [ksOf_len]; exact hlt) = k := by unfold ksOf; rw [List.getElem_map]; exact e
        have a2 : (ksOf kvs)[j]'(by rw [ksOf_len]; exact hj) = k := by unfold ksOf; rw [List.getElem_map, (List.getElem?_eq_some_iff.mp h1).2]; exact h3
        exact hi ((List.getElem_inj nd).mp (a1.trans a2.symm)).symm
      rw [List.getElem?_zip_eq_some (z := (as[i]'(by omega), kvs[i])).mpr ⟨e1, e2⟩, List.getElem?_zip_eq_some (z := (as[i]'(by omega), kvs[i])).mpr ⟨e1, (by rw [List.getElem?_map, e2]; show some (if kvs[i].1 = k then _ else _) = _; rw [if_neg hne])⟩]
    · rw [List.getElem?_eq_none (by rw [List.length_zip]; omega), List.getElem?_eq_none (by rw [List.length_zip, List.length_map]; omega)]
theorem ents_snoc {f : α → D} {kvs : List (Str × List α)} {as : List Addr} {q : Str × List α} {a : Addr} (hl : as.length = kvs.length) : ents f (kvs ++ [q]) (as ++ [a]) = ents f kvs as ++ [(a, oLst (q.2.map f))] := by
  unfold ents
  rw [List.zip_append hl, List.map_append]
  rfl
end
theorem HoldO.perm {F : Hp} {O O' : Own} {H : Hp} (h : HoldO F O H) (p : O.Perm O') : HoldO F O' H := ⟨h.ex, (p.map _).nodup_iff.mp h.nd, fun q hq => h.ow q (p.mem_iff.mpr hq)⟩
theorem HoldO.imp {F : Hp} {O : Own} {H : Hp} {p : Addr} {od od' : OD} (h : HoldO F ((p, od) :: O) H) (k : ∀ F o, od.ok F o → od'.ok F o) : HoldO F ((p, od') :: O) H := ⟨h.ex, h.nd, fun q hq => by
  rcases List.mem_cons.mp hq with rfl | hq
  · obtain ⟨h1, o, h2, h3⟩ := h.ow (p, od) List.mem_cons_self
    exact ⟨h1, o, h2, k F o h3⟩
  · exact h.ow q (List.mem_cons_of_mem _ hq)⟩
section
variable {G : Cfg} {C : Sc} {Γ : Fr} {O : Own} {S1 R B : Type} {kk : Ek S1 R} {oo : Out S1 R} {e a b : Expr} {ss : List Stmt} {pos p1 p2 p3 p4 p5 : Pos} {α : Type} {f : α → D} {kvs : List (Str × List α)} {as : List Addr} {key : Str} {y : α} {p : Addr}
theorem ss_setdef (ha : ∀ O', E G C a Γ O' (dP p)) (hb : ∀ O', E G C b Γ O' (dS key)) (he : ∀ O', E G C e Γ O' (f y)) (hz : kvs.length < 16000000 ∧ ∀ q ∈ kvs, q.2.length < 16000000) (m : ∀ X, M2 X a "setdefault" p1 b (.List [] p2) p3)
    (hba : ∀ env, attributeBase (.Call (.Attribute a "setdefault" p1) [b, .List [] p2] [] p3) "append" env (eval (.Call (.Attribute a "setdefault" p1) [b, .List [] p2] [] p3) env) = eval (.Call (.Attribute a "setdefault" p1) [b, .List [] p2] [] p3) env) (hl : (p4.endLine == p5.line) = true) (hs : ∀ env, starEach [e] env = (false, eval e env) :: starEach [] env)
    (hr : ∀ as', SS G C ss Γ (grp p f (dApp kvs key y) as' O) kk oo) : SS G C (.Expr (.Call (.Attribute (.Call (.Attribute a "setdefault" p1) [b, .List [] p2] [] p3) "append" p4) [e] [] p5) pos :: ss) Γ (grp p f kvs as O) kk oo :=
  ss_cons (t := fun X => tDrop (tBM X.K "list" rAppend (tDSetd (WE X a) (WE X b) (tLst tNil)) (tCons (WE X e) tNil))) (fun X c => ps_expr (pe_bm PySem.F.plainAttrs_list PySem.F.slot_list_append PySem.F.type_list_append mt_append (pe_dsetd pe_can pe_can (pe_lst pa_nil) (m X)) (pa_cons pe_can pa_nil (hs X.env)) (hba X.env) (by rw [hs]; rfl) hl (hs X.env) rfl))
    fun X c W tk F σ H hh D mm => by
      refine (ha _).run X c F σ H hh _ fun F1 H1 v e1 h1 d1 => ?_
      have d1' : v = .ref p := d1
      subst d1'
      obtain ⟨_, ob, hp1, _, _, us1, rfl, _⟩ := h1.ho.at (k := 0) rfl
      refine ⟨p, rfl, .inl ⟨us1, .inl hp1⟩, (hb _).run X c F1 σ H1 h1 _ fun F2 H2 w e2 h2 d2 => ⟨Nat.zero_le _, fun r hr0 => ?_⟩⟩
      have h3 := h2.ho.own (od := oLst []) hr0 ⟨[], rfl, trivial⟩
      obtain ⟨hFp, ob, hp2, hal1, ⟨hnd, hks⟩, us, rfl, hal⟩ := h2.ho.at (k := 0) rfl
      have hne : p ≠ r := ne_of_none hp2 hr0
      have hp3 : upd H2 r (.lst []) p = some (.dK us) := by rw [upd_ne hne]; exact hp2
      have hul : us.length = kvs.length := by rw [hal.length, List.length_zip, ksOf_len]; omega
      refine ⟨us, kS key, hp3, d2.1, by rw [hul, sizeLine_eq]; omega, fun v hv => ?_, fun hv => ?_⟩
      · -- the key is there
        have hf : ∃ ai, dFind ((ksOf kvs).zip as) key = some ai := by
          cases q : dFind ((ksOf kvs).zip as) key with
          | none => rw [(hal.find (fun _ _ => kS_inj) (k := key)).2 q] at hv; cases hv
          | some ai => exact ⟨ai, rfl⟩
        obtain ⟨ai, hai⟩ := hf
        obtain ⟨u0, hu0, du0⟩ := (hal.find (fun _ _ => kS_inj) (k := key)).1 ai hai
        rw [hv] at hu0
        cases hu0
        have du1 : v = .ref ai := du0
        subst du1
        obtain ⟨j, q, j1, j2, j3⟩ := zip_find hal1 hai
        have hj : j < kvs.length := (List.getElem?_eq_some_iff.mp j1).1
        have hen : (ents f kvs as)[j]? = some (ai, oLst (q.2.map f)) := by
          unfold ents
          rw [List.getElem?_map, List.getElem?_zip_eq_some (z := (ai, q)).mpr ⟨j2, j1⟩]
          rfl
        have hat : ((r, oLst []) :: grp p f kvs as O)[j + 2]? = some (ai, oLst (q.2.map f)) := by
          show (ents f kvs as ++ O)[j]? = _
          rw [List.getElem?_append_left (List.getElem?_eq_some_iff.mp hen).1]
          exact hen
        obtain ⟨_, ob, hai3, vs, rfl, _⟩ := h3.at hat
        have hhas : dHas kvs key = true := by rw [← zip_has hal1, dHas_find, hai]; rfl
        refine ⟨.inl ⟨rfl, vs, SqL.of hai3⟩, (he _).run X c F2 σ _ ⟨h2.fr, h3⟩ _ fun F4 H4 u e4 h4 d4 => ?_⟩
        obtain ⟨_, ob, hai4, vs4, rfl, hal4⟩ := h4.ho.at hat
        refine ⟨ai, vs4, u, rfl, rfl, hai4, ?_, ?_⟩
        · rw [AllD.length hal4, List.length_map, sizeLine_eq]
          have := hz.2 q (List.mem_of_getElem? j1)
          omega
        · have h5 := (h4.ho.write hat (od' := oLst ((q.2 ++ [y]).map f)) (o' := .lst (vs4 ++ [u])) ⟨_, rfl, by rw [List.map_append]; exact AllD.append hal4 (show AllD _ [f y] [u] from ⟨d4, trivial⟩)⟩)
          have es : ((r, oLst []) :: grp p f kvs as O).set (j + 2) (ai, oLst ((q.2 ++ [y]).map f)) = (r, oLst []) :: (p, oGd kvs as) :: (ents f (dApp kvs key y) as ++ O) := by
            show (r, oLst []) :: (p, oGd kvs as) :: ((ents f kvs as ++ O).set j _) = _
            rw [List.set_append_left _ _ (List.getElem?_eq_some_iff.mp hen).1, ents_set hnd hal1 j1 j2 j3 hhas]
          rw [es] at h5
          have h6 : HoldO F4 (grp p f (dApp kvs key y) as O) _ := h5.drop.imp fun F o ⟨a1, a2, us', a3, a4⟩ => by
            refine ⟨?_, ?_, us', a3, ?_⟩
            · rw [a1]; unfold dApp; rw [if_pos hhas, List.length_map]
            · exact ⟨by rw [dApp_keys hhas]; exact a2.1, okS_dapp a2.2 d2.2⟩
            · rw [dApp_keys hhas]; exact a4
          exact (hr as).run X c W tk F4 σ _ ⟨h4.fr, h6⟩ D (meet.mono ((e1.trans e2).trans e4) mm)
      · -- the key is new
        have hhas : dHas kvs key = false := by
          rw [← zip_has hal1, dHas_find]
          cases q : dFind ((ksOf kvs).zip as) key with
          | none => rfl
          | some ai =>
            obtain ⟨u0, hu0, _⟩ := (hal.find (fun _ _ => kS_inj) (k := key)).1 ai q
            rw [hv] at hu0
            cases hu0
        have hput : AllK F2 kS dP (dPut ((ksOf kvs).zip as) key r) (putK us (kS key) (.ref r)) := hal.put (fun _ _ => kS_inj) (show (dP r).ok F2 (.ref r) from rfl)
        have ep : dPut ((ksOf kvs).zip as) key r = (ksOf (kvs ++ [(key, [y])])).zip (as ++ [r]) := by
          unfold dPut
          rw [zip_has hal1, hhas, ksOf_app, List.zip_append (by rw [ksOf_len]; exact hal1.symm)]
          rfl
        rw [ep] at hput
        have hnd2 : (ksOf (kvs ++ [(key, [y])])).Nodup := by
          rw [ksOf_app]
          refine List.nodup_append.mpr ⟨hnd, List.nodup_cons.mpr ⟨fun z => (nomatch z), List.nodup_nil⟩, fun a ha b hb z => ?_⟩
          have hb' : b = key := List.mem_singleton.mp hb
          rw [z, hb'] at ha
          rw [dHas_iff.mpr ha] at hhas
          cases hhas
        have hlen2 : (as ++ [r]).length = (kvs ++ [(key, [y])]).length := by rw [List.length_append, List.length_append, hal1]; rfl
        have h4 := h3.write (k := 1) (p := p) (od := oGd kvs as) (od' := oGd (kvs ++ [(key, [y])]) (as ++ [r])) rfl (o' := .dK (putK us (kS key) (.ref r))) ⟨hlen2, ⟨hnd2, by rw [← dApp_new hhas]; exact okS_dapp hks d2.2⟩, _, rfl, hput⟩
        have h4' : HoldO F2 ((r, oLst []) :: (p, oGd (kvs ++ [(key, [y])]) (as ++ [r])) :: (ents f kvs as ++ O)) (upd (upd H2 r (.lst [])) p (.dK (putK us (kS key) (.ref r)))) := h4
        have hr4 : upd (upd H2 r (.lst [])) p (.dK (putK us (kS key) (.ref r))) r = some (.lst []) := by rw [upd_ne (Ne.symm hne), upd_same]
        refine ⟨.inl ⟨rfl, [], SqL.of hr4⟩, (he _).run X c F2 σ _ ⟨h2.fr, h4'⟩ _ fun F4 H4 u e4 h5 d4 => ?_⟩
        obtain ⟨_, ob, hai4, vs4, rfl, hal4⟩ := h5.ho.at (k := 0) rfl
        have hv4 : vs4 = [] := by
          cases vs4 with
          | nil => rfl
          | cons => exact hal4.elim
        subst hv4
        refine ⟨r, [], u, rfl, rfl, hai4, Nat.lt_of_lt_of_le (Nat.zero_lt_succ 0) (by rw [sizeLine_eq]; exact Nat.le_of_ble_eq_true rfl), ?_⟩
        have h6 := h5.ho.write (k := 0) rfl (od' := oLst ([y].map f)) (o' := .lst ([] ++ [u])) ⟨_, rfl, (by rw [List.map_cons, List.map_nil, List.nil_append]; exact And.intro d4 trivial)⟩
        have h7 : HoldO F4 (grp p f (dApp kvs key y) (as ++ [r]) O) _ := h6.perm (by
          rw [dApp_new hhas]
          show ((r, oLst ([y].map f)) :: (p, oGd (kvs ++ [(key, [y])]) (as ++ [r])) :: (ents f kvs as ++ O)).Perm ((p, oGd (kvs ++ [(key, [y])]) (as ++ [r])) :: (ents f (kvs ++ [(key, [y])]) (as ++ [r]) ++ O))
          rw [ents_snoc hal1, List.append_assoc]
          refine (List.Perm.swap _ _ _).trans (List.Perm.cons _ ?_)
          exact (List.perm_middle (l₁ := ents f kvs as) (l₂ := O) (a := (r, oLst ([y].map f)))).symm)
        exact (hr (as ++ [r])).run X c W tk F4 σ _ ⟨h5.fr, h7⟩ D (meet.mono ((e1.trans e2).trans e4) mm)
theorem freeze_ents : ∀ {kvs : List (Str × List α)} {as : List Addr} {F H : Hp}, as.length = kvs.length → HoldO F (ents f kvs as ++ O) H → ∃ F', Gw F F' ∧ HoldO F' O H ∧ ∀ us, AllK F kS dP ((ksOf kvs).zip as) us → AllK F' kS (dLo G.K f) kvs us
  | [], [], F, H, _, h => ⟨F, Gw.refl F, h, fun us q => by
    cases us with
    | nil => trivial
    | cons => exact q.elim⟩
  | [], _ :: _, _, _, hl, _ => by simp at hl
  | _ :: _, [], _, _, hl, _ => by simp at hl
  | q :: kvs, a :: as, F, H, hl, h => by
    have h' : HoldO F ((a, oLst (q.2.map f)) :: (ents f kvs as ++ O)) H := h
    obtain ⟨F1, e1, h1, d1⟩ := freeze_lst (G := G) h'
    obtain ⟨F2, e2, h2, k2⟩ := freeze_ents (kvs := kvs) (as := as) (by simpa using hl) h1
    refine ⟨F2, e1.trans e2, h2, fun us z => ?_⟩
    cases us with
    | nil => exact z.elim
    | cons u us =>
      refine ⟨z.1, ?_, k2 us (z.2.2.mono e1)⟩
      have hu : u.2 = .ref a := z.2.1
      rw [hu]
      exact D.mono _ e2 d1
theorem ss_retG {r : R} {i : Nat} {x : Str} (v : Var C i x) (hi : Γ[i]? = some (some (dP p))) (hr : ∀ F v H, (RK.val (dDc kS (dLo G.K f) kvs) O).ok F v H → (kk.rs r).ok F v H) : SS G C (.Return (some (.Name x p1)) pos :: ss) Γ (grp p f kvs as O) kk (.rt r) :=
  ss_cons (t := fun X => tRet (WE X (.Name x p1))) (fun _ _ => ps_ret pe_can) fun X c W tk F σ H hh D mm => by
    have h := e_var (G := G) (C := C) (O := grp p f kvs as O) (pos := p1) v hi
    refine we_ghost (Q0 := fun u H1 => ∃ F1, u = .ref p ∧ Gw F F1 ∧ Hold F1 Γ (grp p f kvs as O) σ H1) (h.run X c F σ H hh _ fun F1 H1 u e1 h1 d1 => ⟨F1, d1, e1, h1⟩) fun pins s u H1 I ⟨F1, hu, e1, h1⟩ => ?_
    subst hu
    obtain ⟨ob, hp, ⟨hl, hks, us, rfl, hal⟩, _, _⟩ := HoldO.freeze h1.ho
    obtain ⟨od, I'⟩ := I.lock hp trivial
    obtain ⟨h2, e2⟩ := gw_lock (o := .dK us) h1.ho (.frz od (.dK us))
    obtain ⟨F3, e3, h3, k3⟩ := freeze_ents (G := G) hl h2
    exact ⟨_, I', mm.1 _ _ (hr F _ _ ⟨F3, (e1.trans e2).trans e3, h3, p, us, od, rfl, e3 p _ upd_same, k3 us (hal.mono e2), hks.2⟩)⟩
end
section
variable {α : Type}
def gsz (kvs : List (Str × List α)) : Nat := (kvs.map fun q => q.2.length + 1).sum
theorem gsz_len {kvs : List (Str × List α)} : kvs.length ≤ gsz kvs := by
  unfold gsz
  induction kvs with
  | nil => exact Nat.le_refl _
  | cons q kvs ih => rw [List.length_cons, List.map_cons, List.sum_cons]; omega
theorem gsz_mem {kvs : List (Str × List α)} {q : Str × List α} (h : q ∈ kvs) : q.2.length ≤ gsz kvs := by
  unfold gsz
  induction kvs with
  | nil => cases h
  | cons p kvs ih =>
    rw [List.map_cons, List.sum_cons]
    rcases List.mem_cons.mp h with rfl | h
    · omega
    · have := ih h; omega
theorem gsz_lt {kvs : List (Str × List α)} (h : gsz kvs < 16000000) : kvs.length < 16000000 ∧ ∀ q ∈ kvs, q.2.length < 16000000 := ⟨Nat.lt_of_le_of_lt gsz_len h, fun _ hq => Nat.lt_of_le_of_lt (gsz_mem hq) h⟩
theorem dApp_nd {kvs : List (Str × List α)} {k : Str} {y : α} (h : (ksOf kvs).Nodup) : (ksOf (dApp kvs k y)).Nodup := by
  cases hh : dHas kvs k with
  | true => rw [dApp_keys hh]; exact h
  | false =>
    rw [dApp_new hh, ksOf_app]
    refine List.nodup_append.mpr ⟨h, List.nodup_cons.mpr ⟨fun z => (nomatch z), List.nodup_nil⟩, fun a ha b hb z => ?_⟩
    have hb' : b = k := List.mem_singleton.mp hb
    rw [z, hb'] at ha
    rw [dHas_iff.mpr ha] at hh
    cases hh
theorem gsz_at : ∀ {kvs : List (Str × List α)} {k : Str} {y : α}, (ksOf kvs).Nodup → gsz (kvs.map (fun q => if q.1 = k then (q.1, q.2 ++ [y]) else q)) ≤ gsz kvs + 1
  | [], _, _, _ => by unfold gsz; exact Nat.le_succ _
  | q :: kvs, k, y, h => by
    rw [ksOf_cons, List.nodup_cons] at h
    have ih := gsz_at (kvs := kvs) (k := k) (y := y) h.2
    unfold gsz at ih ⊢
    rw [List.map_cons, List.map_cons, List.sum_cons, List.map_cons, List.sum_cons]
    by_cases e : q.1 = k
    · have he : kvs.map (fun q => if q.1 = k then (q.1, q.2 ++ [y]) else q) = kvs := by
        refine (List.map_congr_left (g := id) fun r hr => ?_).trans (List.map_id kvs)
        rw [if_neg fun z => h.1 (by rw [e, ← z]; exact List.mem_map_of_mem hr)]
        rfl
      rw [he, if_pos e, List.length_append]
      show q.2.length + 1 + 1 + _ ≤ _
      omega
    · rw [if_neg e]; omega
theorem dApp_gsz {kvs : List (Str × List α)} {k : Str} {y : α} (h : (ksOf kvs).Nodup) : gsz (dApp kvs k y) ≤ gsz kvs + 2 := by
  cases hh : dHas kvs k with
  | true => unfold dApp; rw [if_pos hh]; have := gsz_at (k := k) (y := y) h; omega
  | false =>
    rw [dApp_new hh]
    unfold gsz
    rw [List.map_append, List.sum_append]
    show _ + (([y] : List α).length + 1 + 0) ≤ _
    rw [List.length_singleton]
    omega
theorem foldl_gsz {β : Type} {xs : List β} {f : List (Str × List α) → β → List (Str × List α)} (hf : ∀ s x, (ksOf s).Nodup → (ksOf (f s x)).Nodup ∧ gsz (f s x) ≤ gsz s + 2) : ∀ {s0 : List (Str × List α)}, (ksOf s0).Nodup → (ksOf (xs.foldl f s0)).Nodup ∧ gsz (xs.foldl f s0) ≤ gsz s0 + 2 * xs.length := by
  induction xs with
  | nil => exact fun h => ⟨h, Nat.le_refl _⟩
  | cons x xs ih =>
    intro s0 h
    have a := hf s0 x h
    have b := ih a.1
    refine ⟨b.1, ?_⟩
    rw [List.foldl_cons, List.length_cons]
    omega
theorem gsz_step {kvs : List (Str × List α)} {k : Str} {y : α} (h : (ksOf kvs).Nodup) : (ksOf (dApp kvs k y)).Nodup ∧ gsz (dApp kvs k y) ≤ gsz kvs + 2 := ⟨dApp_nd h, dApp_gsz h⟩
theorem nd0 {α : Type} : (ksOf ([] : List (Str × List α))).Nodup := List.nodup_nil
theorem gsz_keep {kvs : List (Str × List α)} (h : (ksOf kvs).Nodup) : (ksOf kvs).Nodup ∧ gsz kvs ≤ gsz kvs + 2 := ⟨h, Nat.le_add_right _ _⟩
end
theorem en_gd0 {G : Cfg} {C : Sc} {Γ : Fr} {O : Own} {pos : Pos} {α : Type} : EN G C (.Dict [] [] pos) Γ O (oGd ([] : List (Str × List α)) []) := .mk fun X c F σ H hh Q q => by
  refine we_of pe_dnewK fun p hp => ?_
  exact q F _ p (Gw.refl F) ⟨hh.fr, hh.ho.own hp ⟨rfl, ⟨List.nodup_nil, fun _ h => nomatch h⟩, [], rfl, trivial⟩⟩
theorem hold_endX {A : Type} {Γ Γ' : Fr} {O1 : A → Own} {a : A} (l : FrLe Γ Γ') : ∀ F σ H, Hold F Γ (O1 a) σ H → (SD.some' fun a => SD.of Γ' (O1 a)).ok F σ H := fun F σ H hh => ⟨a, F, Gw.refl F, hh.fr.le l, hh.ho⟩
section
variable {G : Cfg} {C : Sc} {Γ : Fr} {O : Own} {a b : Expr} {pos : Pos} {α : Type} {f : α → D} {kvs : List ((Str × Str) × α)} {key : Str × Str}
theorem t_ninT (ha : E G C a Γ O (dKT key)) (hb : E G C b Γ O (dDt f kvs)) (hm : behindInMarks .NotIn b = false) : T G C (.Compare a [.NotIn] [b] pos) Γ O (!dHas kvs key) := .mk fun X c F σ H h0 Q q => by
  refine wt_of (pt_cmp (pc_dnotin (by have := c.un; omega) pe_can pe_can) hm) (ha.run X c F σ H h0 _ fun F1 H1 w e1 h1 d1 => hb.run X c F1 σ H1 h1 _ fun F2 H2 v e2 h2 d2 => ?_)
  obtain ⟨p, us, od, rfl, hp, hal⟩ := d2
  obtain ⟨r, rfl, hr⟩ := d1
  obtain ⟨o, ho, hs⟩ := dgetT_of (.inr ⟨od, h2.ho.ex p _ hp⟩) hal (h2.ho.ex r _ (e2 r _ hr))
  exact ⟨p, o, rfl, ho, _, rfl, by rw [hs]; exact q F2 H2 (e1.trans e2) h2⟩
end
section
variable {κ : Type} [DecidableEq κ] {ke : κ → Key} {G : Cfg} {C : Sc} {Γ : Fr} {O : Own} {a b : Expr} {d : D} {pos : Pos} {α : Type} {f : α → D} {kvs : List (κ × α)} {key : κ} {n : Nat} {p : Addr}
end
end Kn
namespace Kn
open PySem PySem.Spec L2 PySem.W PyProof.Rows
theorem each_of {F : Hp} {α : Type} {f : α → D} : ∀ {xs : List α} {ws : List V} {its : List Value}, AllD F (xs.map f) ws → Vals ws its → EachIs (fun v b => ∃ x, RelV x v ∧ (f b).ok F x) its xs
  | [], [], [], _, _ => .nil
  | x :: xs, w :: ws, i :: its, h, r => by
    cases r with
    | cons r1 r2 => exact .cons ⟨w, r1, h.1⟩ (each_of h.2 r2)
  | [], [], _ :: _, _, r => by cases r
  | [], _ :: _, _, h, _ => h.elim
  | _ :: _, [], _, h, _ => h.elim
  | _ :: _, _ :: _, [], _, r => by cases r
theorem of_each {F : Hp} {α : Type} {f : α → D} : ∀ {xs : List α} {its : List Value}, EachIs (fun v b => ∃ x, RelV x v ∧ (f b).ok F x) its xs → ∃ ws, Vals ws its ∧ AllD F (xs.map f) ws
  | [], [], _ => ⟨[], .nil, trivial⟩
  | x :: xs, i :: its, h => by
    cases h with
    | cons h1 h2 =>
    obtain ⟨w, r1, h1⟩ := h1
    obtain ⟨ws, r2, d2⟩ := of_each h2
    exact ⟨w :: ws, .cons r1 r2, h1, d2⟩
  | [], _ :: _, h => by cases h
  | _ :: _, [], h => by cases h
def srtD {α : Type} (p : α → PyData) (xs : List α) : List α := xs.mergeSort (dataLe false p)
def rSortD {α : Type} (K : PySem.W.Frag) (f : α → D) (p : α → PyData) : List V → Hp → VK → Prop := fun vs H Q => ∃ (a : Addr) (xs : List α) (ws : List V) (F : Hp), vs = [.ref a] ∧ SqL K H a ws ∧ Gw F H ∧ AllD F (xs.map f) ws ∧ xs.length ≤ 16000000 ∧
  ∀ zs q, AllD F ((srtD p xs).map f) zs → H q = none → Q (.ref q) (upd H q (.lst zs))
theorem srt_perm {α : Type} {p : α → PyData} {xs : List α} : (srtD p xs).Perm xs := List.mergeSort_perm _ _
theorem srt_len {α : Type} {p : α → PyData} {xs : List α} : (srtD p xs).length = xs.length := srt_perm.length_eq
theorem mem_srt {α : Type} {p : α → PyData} {xs : List α} {x : α} : x ∈ srtD p xs ↔ x ∈ xs := srt_perm.mem_iff
structure Ord1 {α : Type} (p : α → PyData) : Prop where
  al : ∀ a b, alike (p a) (p b) = true
  so : (∀ a, ∃ x r, p a = .tuple (x :: r)) ∨ ∀ a, p a ≠ .none ∧ ∀ xs, p a ≠ .tuple xs
theorem Ord1.able {α : Type} {p : α → PyData} (o : Ord1 p) (xs : List α) : PySem.W.Sortable (xs.map p) := by
  rcases o.so with h | h
  · exact Sortable.tuples h
  · exact Sortable.others h
theorem cr_sortD {X : Cx} {α : Type} [DecidableEq α] {f : α → D} {p : α → PyData} {n : Nat} (t : Dat X.K f p n) (o : Ord1 p) (hn : n ≤ 60) (hu : X.A.units + 66 < cLine) : CallR X (.builtin "sorted") (rSortD X.K f p) := by
  intro pins s σ H vs us Q I r h
  obtain ⟨a, xs, ws, F, rfl, hs, e, hd, hl, q⟩ := h
  obtain ⟨its, rv, hl', hz⟩ := I.list hs
  rw [Vals.ref1 r]
  have each := each_of hd rv
  have er : EachIs (fun v b => ∃ as, Reads s.heap v (p b) as) its xs := each.mono fun v b ⟨x, h1, h2⟩ => Dp.reads I (p b) x v (t.ok b F H x e h2) h1
  refine sorted_data hl'.isList each er (AllAlike.of o.al) (o.able xs) (by rw [sizeLine_eq]; omega) (fun b _ => by have := t.dep b; omega) fun out hlen eo => ?_
  obtain ⟨zs, rz, dz⟩ := of_each eo
  obtain ⟨ep, he'⟩ := PyProof.Rows.sortedAll_at s.heap its (List.toArray out)
  have hl2 : zs.length ≤ sizeLine := by rw [rz.length, hlen, sizeLine_eq]; omega
  exact ⟨.ref _, upd H (s.heap.objs.size + 1) (.lst zs), I.laid (t' := s.toks) (fun _ _ => PyProof.Rows.sortedAll_old) (Nat.le_succ _) ⟨hl2, out, ep, rz, he'⟩, rfl, q zs _ dz (I.hok.fresh (Nat.le_succ _))⟩
section
variable {G : Cfg} {C : Sc} {O : Own} {α : Type} [DecidableEq α] {f : α → D} {p : α → PyData} {n : Nat} {xs : List α}
theorem k_sortL (t : Dat G.K f p n) (o : Ord1 p) (hn : n ≤ 60) (hl : xs.length ≤ 16000000) : CalN G C (.builtin "sorted") O [dLst G.K (xs.map f)] (oLst ((srtD p xs).map f)) := ⟨fun X c => ⟨_, cr_sortD (by rw [c.K]; exact t) o hn (by have := c.un; omega), fun F H vs hh h Q q => by
  obtain ⟨v, rfl, a, us, rfl, hs, ha⟩ := all1 h
  exact ⟨a, xs, us, F, rfl, by rw [c.K]; exact gw_l hh.ex hs.sq, hh.ex, ha, hl, fun zs q0 hz hq => q F _ q0 (Gw.refl F) (hh.own hq ⟨zs, rfl, hz⟩)⟩⟩⟩
end
theorem perm_one {α : Type} {r : α → α → Prop} (anti : ∀ a b, r a b → r b a → a = b) : ∀ {l m : List α}, l.Pairwise r → m.Pairwise r → l.Perm m → l = m
  | [], m, _, _, p => (List.Perm.eq_nil p.symm).symm
  | x :: l, [], _, _, p => absurd p.length_eq (by simp)
  | x :: l, y :: m, hl, hm, p => by
    have e : x = y := by
      rcases List.mem_cons.mp (p.mem_iff.mp (List.mem_cons_self (a := x) (l := l))) with e | hx
      · exact e
      · rcases List.mem_cons.mp (p.mem_iff.mpr (List.mem_cons_self (a := y) (l := m))) with e | hy
        · exact e.symm
        · exact anti _ _ ((List.pairwise_cons.mp hl).1 y hy) ((List.pairwise_cons.mp hm).1 x hx)
    subst e
    rw [perm_one anti (List.pairwise_cons.mp hl).2 (List.pairwise_cons.mp hm).2 p.cons_inv]
theorem AllK.keys {F : Hp} {α : Type} {f : α → D} : ∀ {kvs : List (Str × α)} {us : List (Key × V)}, AllK F kS f kvs us → us.map (·.1) = (kvs.map (·.1)).map Sum.inr
  | [], [], _ => rfl
  | q :: kvs, u :: us, h => by rw [List.map_cons, List.map_cons, List.map_cons, h.1, AllK.keys h.2.2]
  | [], _ :: _, h => h.elim
  | _ :: _, [], h => h.elim
def kys {κ α : Type} (kvs : List (κ × α)) : List κ := kvs.map fun q => q.1
section
variable {G : Cfg} {C : Sc} {Γ : Fr} {O : Own} {α : Type} {f : α → D} {kvs : List (Str × α)} {it tg : Expr}
theorem ei_keys (h : E G C it Γ O (dDc kS f kvs)) : EI G C tg it Γ O anyO ((kys kvs).map dS) := .mk fun X c F σ H hh R q =>
  wi_of (pi_keys pe_can) (h.run X c F σ H hh _ fun F1 H1 v e1 h1 d1 => by
    obtain ⟨a, us, od, rfl, hp, hal, hok⟩ := d1
    have hlen := hal.length
    refine ⟨a, od, rfl, .inl ⟨us, h1.ho.ex a _ hp, q _ F1 H1 e1 h1 ⟨fun i d hd F O H _ e h => ?_, fun F O H _ e h => ?_⟩⟩⟩
    · unfold kys at hd
      rw [List.getElem?_map, List.getElem?_map] at hd
      cases hi : kvs[i]? with
      | none => rw [hi] at hd; cases hd
      | some r =>
        rw [hi] at hd
        cases hd
        have hlt := (List.getElem?_eq_some_iff.mp hi).1
        refine ⟨⟨h.ex a _ (e a _ hp), by omega⟩, fun x H' hy => ?_⟩
        obtain ⟨rfl, k, v, hk, rfl⟩ := hy
        have hkey : k = kS r.1 := by
          have z := congrArg (fun l => l[i]?) hal.keys
          simp only [List.getElem?_map, hk, hi, Option.map_some] at z
          exact Option.some.inj z
        subst hkey
        exact ⟨F, Gw.refl F, h, rfl, hok r (List.mem_of_getElem? hi)⟩
    · refine ⟨h.ex a _ (e a _ hp), ?_⟩
      unfold kys
      rw [List.length_map, List.length_map, hlen]
      exact Nat.le_refl _)
end
def ofPairs {α : Type} (xs : List (Str × α)) : List (Str × α) := xs.foldl (fun s q => dPut s q.1 q.2) []
theorem merge_put {F : Hp} {α : Type} {f : α → D} : ∀ {xs kvs : List (Str × α)} {ms us : List (Key × V)}, AllK F kS f xs ms → AllK F kS f kvs us → AllK F kS f (xs.foldl (fun s q => dPut s q.1 q.2) kvs) (mergeK us ms)
  | [], _, [], _, _, h => h
  | q :: xs, kvs, m :: ms, us, h1, h2 => by
    have hp := h2.put (fun _ _ => kS_inj) (k := q.1) (a := q.2) (v := m.2) h1.2.1
    rw [← h1.1] at hp
    exact merge_put (xs := xs) (ms := ms) h1.2.2 hp
  | [], _, _ :: _, _, h, _ => h.elim
  | _ :: _, _, [], _, h, _ => h.elim
theorem put_ok {α : Type} : ∀ {xs kvs : List (Str × α)}, (∀ q ∈ xs, okS q.1) → (∀ q ∈ kvs, kOk (kS q.1)) → ∀ q ∈ xs.foldl (fun s q => dPut s q.1 q.2) kvs, kOk (kS q.1)
  | [], _, _, h => h
  | x :: xs, kvs, h1, h2 => put_ok (xs := xs) (fun q hq => h1 q (List.mem_cons_of_mem _ hq)) (kOk_put h2 (h1 x List.mem_cons_self))
theorem pairs_in {K : PySem.W.Frag} {F H : Hp} {α : Type} {f : α → D} (e : Gw F H) : ∀ {xs : List (Str × α)} {vs : List V}, AllD F (xs.map (dT2 K dS f)) vs → ∃ (ps : List Addr) (ms : List (Key × V)), vs = ps.map V.ref ∧ Paired (fun p kv => SqT K H p [kV kv.1, kv.2]) ps ms ∧ AllK F kS f xs ms ∧ ∀ q ∈ xs, okS q.1
  | [], [], _ => ⟨[], [], rfl, .nil, trivial, fun _ h => nomatch h⟩
  | x :: xs, v :: vs, h => by
    obtain ⟨ps, ms, rfl, hp, hk, ho⟩ := pairs_in (xs := xs) e h.2
    obtain ⟨a, ws, rfl, hs, hd⟩ := h.1
    match ws, hd with
    | [w1, w2], hd =>
      obtain ⟨⟨rfl, ho1⟩, d2, _⟩ := hd
      exact ⟨a :: ps, (kS x.1, w2) :: ms, rfl, .cons (gw_t e hs) hp, ⟨rfl, d2, hk⟩, fun q hq => by
        rcases List.mem_cons.mp hq with rfl | hq
        · exact ho1
        · exact ho q hq⟩
    | [], hd => exact hd.elim
    | [_], hd => exact hd.2.elim
    | _ :: _ :: _ :: _, hd => exact hd.2.2.elim
  | [], _ :: _, h => h.elim
  | _ :: _, [], h => h.elim
theorem k_dictP {G : Cfg} {C : Sc} [Calm C] {O : Own} {α : Type} {f : α → D} {xs : List (Str × α)} : CalN G C (.type "dict") O [dLst G.K (xs.map (dT2 G.K dS f))] (oDc kS f (ofPairs xs)) := ⟨fun X c => ⟨_, call_dictP c.cm, fun F H vs hh h Q q => by
  obtain ⟨v, rfl, a, us, rfl, hs, ha⟩ := all1 h
  obtain ⟨ps, ms, rfl, hp, hk, ho⟩ := pairs_in hh.ex ha
  refine ⟨a, ps, ms, rfl, by rw [c.K]; exact gw_l hh.ex hs.sq, by rw [c.K]; exact hp, fun q0 hq => q F _ q0 (Gw.refl F) (hh.own hq ⟨_, rfl, merge_put hk (show AllK F kS f [] [] from trivial), put_ok ho fun _ h => nomatch h⟩)⟩⟩⟩
section
variable {G : Cfg} {C : Sc} {O : Own} {i j : Str}
end
section
variable {G : Cfg} {C : Sc} {Γ : Fr} {O : Own} {S1 R B : Type} {k : Ek S1 R} {e a b : Expr} {ss : List Stmt} {pos p1 p2 : Pos} {α : Type} {f : α → D} {n : Nat} {p : Addr}
end
end Kn
namespace Kn
open PySem PySem.Spec L2 PySem.W PyProof.Rows
inductive Wy where
  | saw (n : Int)
  | heard (n : Int) (t : Str)
deriving DecidableEq
instance : Inhabited Wy := ⟨.saw 0⟩
def Wy.kd : Wy → Str
  | .saw .. => "saw"
  | .heard .. => "heard"
def Wy.no : Wy → Int
  | .saw n => n
  | .heard n _ => n
def Wy.tl : Wy → Str
  | .saw _ => ""
  | .heard _ t => t
def Wy.ds : Wy → List D
  | .saw n => [dS "saw", dI n]
  | .heard n t => [dS "heard", dI n, dS t]
def dWy (K : PySem.W.Frag) (w : Wy) : D := dTup K w.ds
theorem wy_kinds (w : Wy) : decide (w.kd = ("heard" : Str)) = !decide (w.kd = ("saw" : Str)) := by
  cases w with
  | saw n => show decide (("saw" : Str) = ("heard" : Str)) = !decide (("saw" : Str) = ("saw" : Str)); decide +kernel
  | heard n t => show decide (("heard" : Str) = ("heard" : Str)) = !decide (("heard" : Str) = ("saw" : Str)); decide +kernel
section
variable {G : Cfg} {C : Sc} {Γ : Fr} {O : Own} {a : Expr} {pos p1 p2 : Pos} {j : Nat} {w : Wy}
end
theorem wy_nsaw {w : Wy} (h : decide (w.kd = ("saw" : Str)) = false) : decide (w.kd = ("heard" : Str)) = true := by rw [wy_kinds, h]; rfl
def wyP : Wy → PyData
  | .saw n => .tuple [.str "saw", .int n]
  | .heard n t => .tuple [.str "heard", .int n, .str t]
theorem alike_wy (a b : Wy) : alike (wyP a) (wyP b) = true := by cases a <;> cases b <;> simp [wyP, alike, alikeAll]
theorem ord_int : Ord1 PyData.int := ⟨fun _ _ => by simp [alike], .inr fun a => ⟨by simp, by simp⟩⟩
section
variable {G : Cfg} {C : Sc} {Γ : Fr} {O : Own} {S1 R : Type} {kk : Ek S1 R} {oo : Out S1 R} {ss : List Stmt} {α : Type} {f : α → D} {kvs : List ((Str × Str) × α)} {p : Addr}
end
theorem mem_kys {κ α : Type} [DecidableEq κ] {kvs : List (κ × α)} {k : κ} : k ∈ kys kvs ↔ dHas kvs k = true := dHas_iff.symm
theorem has_srt {α : Type} {kvs : List (Str × α)} {k : Str} (h : k ∈ srtD PyData.str (kys kvs)) : dHas kvs k = true := mem_kys.mp (mem_srt.mp h)
end Kn
namespace Kn
open PySem PySem.Spec L2 PySem.W PyProof.Rows
section
variable {G : Cfg} {C : Sc} {Γ : Fr} {O : Own} {a b : Expr} {pos p1 p2 p3 : Pos} {ds es : List D} {j k : Nat}
theorem e_catT (ha : E G C a Γ O (dTup G.K ds)) (hb : E G C b Γ O (dTup G.K es)) (hl : ds.length + es.length ≤ 100000) : E G C (.BinOp a .Add b pos) Γ O (dTup G.K (ds ++ es)) := .mk fun X c F σ H h0 Q q => by
  refine we_of (pe_op op_catA pe_can pe_can) (ha.run X c F σ H h0 _ fun F1 H1 v e1 h1 d1 => hb.run X c F1 σ H1 h1 _ fun F2 H2 u e2 h2 d2 => ?_)
  obtain ⟨p, vs, rfl, hs, hd⟩ := (dTup G.K ds).mono e2 d1
  obtain ⟨r, us, rfl, hs2, hd2⟩ := d2
  have l1 := AllD.length hd
  have l2 := AllD.length hd2
  refine ⟨p, r, vs, us, rfl, rfl, by rw [c.K]; exact gw_t h2.ho.ex hs, by rw [c.K]; exact gw_t h2.ho.ex hs2, by rw [l1, l2, sizeLine_eq]; omega, fun h => ?_, fun _ h => ?_, fun _ _ n hn => ?_⟩
  · subst h
    have : ds = [] := List.length_eq_zero_iff.mp l1.symm
    subst this
    exact q F2 H2 _ (e1.trans e2) h2 ⟨r, us, rfl, hs2, hd2⟩
  · subst h
    have : es = [] := List.length_eq_zero_iff.mp l2.symm
    subst this
    exact q F2 H2 _ (e1.trans e2) h2 ⟨p, vs, rfl, hs, by rw [List.append_nil]; exact hd⟩
  · obtain ⟨h4, e4⟩ := h2.ho.laid (o := .tup (vs ++ us)) hn
    exact q _ _ _ ((e1.trans e2).trans e4) (h2.mono e4 h4) ⟨n, _, rfl, .inl (.inl upd_same), AllD.mono e4 (AllD.append hd hd2)⟩
end
end Kn
namespace Kn
open PySem PySem.Spec L2 PySem.W PyProof.Rows
section
variable {G : Cfg} {C : Sc} {Γ : Fr} {O : Own} {S1 R B : Type} {k : Ek S1 R} {e a b : Expr} {ss : List Stmt} {pos p1 p2 : Pos} {α : Type} {f : α → D} {n : Nat} {p : Addr}
end
section
variable {G : Cfg} {C : Sc} {Γ : Fr} {O : Own} {a b : Expr} {pos p1 : Pos}
end
end Kn
namespace Kn
open PySem PySem.Spec L2
theorem slot_same {σ : L2.St} {i : Nat} {v : V} (hv : σ[i]? = some (some v)) : σ.set i (some v) = σ := by
  refine List.ext_getElem? fun j => ?_
  by_cases hj : i = j
  · subst hj
    rw [List.getElem?_set_self (List.getElem?_eq_some_iff.mp hv).1, hv]
  · rw [List.getElem?_set_ne hj]
theorem FrOk.put {F : Hp} {Γ : Fr} {σ : L2.St} {i : Nat} {d d' : D} (h : FrOk F Γ σ) (hi : Γ[i]? = some (some d)) (hd : ∀ v, d.ok F v → d'.ok F v) : FrOk F (Γ.set i (some d')) σ := by
  obtain ⟨v, hv, dv⟩ := h.2 i d hi
  have a := h.set i (hd v dv)
  rw [slot_same hv] at a
  exact a
theorem AllD.put {F : Hp} {d d' : D} (hd : ∀ v, d.ok F v → d'.ok F v) : ∀ {ds : List D} {vs : List V} {n : Nat}, ds[n]? = some d → AllD F ds vs → AllD F (ds.set n d') vs
  | [], _, n, e, _ => by simp at e
  | x :: ds, [], n, _, h => h.elim
  | x :: ds, v :: vs, 0, e, h => by simp at e; subst e; exact ⟨hd v h.1, h.2⟩
  | x :: ds, v :: vs, n + 1, e, h => ⟨h.1, AllD.put hd (by simpa using e) h.2⟩
theorem HoldO.put {F : Hp} {O : Own} {H : Hp} {n : Nat} {p : Addr} {od od' : OD} (h : HoldO F O H) (hk : O[n]? = some (p, od)) (hd : ∀ o, od.ok F o → od'.ok F o) : HoldO F (O.set n (p, od')) H := by
  obtain ⟨hlt, hge⟩ := List.getElem?_eq_some_iff.mp hk
  refine ⟨h.ex, ?_, fun q hq => ?_⟩
  · have em : (O.set n (p, od')).map (·.1) = O.map (·.1) := by
      rw [List.map_set]
      refine List.ext_getElem? fun i => ?_
      by_cases hi : n = i
      · subst hi
        rw [List.getElem?_set_self (by rw [List.length_map]; exact hlt), List.getElem?_map, hk]
        rfl
      · rw [List.getElem?_set_ne hi]
    rw [em]; exact h.nd
  · rcases List.mem_or_eq_of_mem_set hq with h1 | h1
    · exact h.ow q h1
    · subst h1
      obtain ⟨h2, o, h3, h4⟩ := h.at hk
      exact ⟨h2, o, h3, hd o h4⟩
section
variable {G : Cfg} {C : Sc} {Γ Γ' : Fr} {O : Own} {S1 R B : Type} {kk : Ek S1 R} {oo : Out S1 R} {e a b c : Expr} {es : List Expr} {d d' : D} {ds : List D} {ss body : List Stmt} {pos p1 p2 p3 : Pos} {x : Str} {α : Type} {f : α → D} {n m i k : Nat} {p q : Addr} {od : OD} {ks : List Str} {key : Str}
structure AN (G : Cfg) (C : Sc) (es : List Expr) (Γ : Fr) (O : Own) (T : (Own → List D → Prop) → Prop) : Prop where
  st : ∀ env, (starEach es env).any (·.1) = false
  run : ∀ X, InC G C X → ∀ (F : Hp) (σ : L2.St) (H : Hp), Hold F Γ O σ H → ∀ R, T R → ∀ Q : List V → Hp → Prop, (∀ F' H' vs O' ds, R O' ds → Gw F F' → Hold F' Γ O' σ H' → AllD F' ds vs → Q vs H') → WA X es σ H Q
structure ET (G : Cfg) (C : Sc) (e : Expr) (Γ : Fr) (O : Own) (T : (Own → D → Prop) → Prop) : Prop where
  run : ∀ X, InC G C X → ∀ (F : Hp) (σ : L2.St) (H : Hp), Hold F Γ O σ H → ∀ R, T R → ∀ Q : VK, (∀ F' H' v O' d, R O' d → Gw F F' → Hold F' Γ O' σ H' → d.ok F' v → Q v H') → WE X e σ H Q
def RK.set (S : Own → D → Prop) : RK := ⟨fun F v H => ∃ F' O' d, S O' d ∧ Gw F F' ∧ HoldO F' O' H ∧ d.ok F' v, fun e ⟨F', O', d, h1, e2, h2, h3⟩ => ⟨F', O', d, h1, e.trans e2, h2, h3⟩, noXo, fun _ z => z⟩
theorem ss_asgT {T : (Own → D → Prop) → Prop} (l : Loca C i x) (hs : ∀ env, swapsWith e (some (.Name x p1)) pos.line env = pure false) (h : ET G C e Γ O T) (hr : T fun O' d => SS G C ss (Γ.set i (some d)) O' kk oo) : SS G C (.Assign [.Name x p1] e pos :: ss) Γ O kk oo :=
  ss_cons (t := fun X => tAsg (WE X e) (gName i)) (fun X c => ps_set (by rw [c.n]; exact l.nd) (by rw [c.n]; exact l.n) (by rw [c.sc]; exact l.l) pe_can (hs X.env) (by rcases l.f with h | h; exact .inl (c.fn h x); exact .inr (by rw [c.sc]; exact h)))
    fun X c W tk F σ H hh D m => h.run X c F σ H hh _ hr _ fun F1 H1 v O' d r e1 h1 d1 => r.run X c W tk F1 _ H1 (Hold.set i h1 d1) D (meet.mono e1 m)
theorem ss_let {A : Type} {a : A} {g : A → B} (ι : B → Out S1 R) (h : ∀ y, y = a → SS G C ss Γ O kk (ι (g y))) : SS G C ss Γ O kk (ι (lt a g)) := h a rfl
end
section
variable {G : Cfg} {C : Sc} {Γ : Fr} {O : Own} {S1 S2 R B : Type} {kk : Ek S1 R} {c : Expr} {ss body : List Stmt} {pos : Pos}
end
end Kn
namespace Kn
open PySem PySem.Spec L2
section
variable {G : Cfg} {C : Sc} {Γ : Fr} {O : Own} {S1 R B : Type} {kk : Ek S1 R} {oo : Out S1 R} {e a b c : Expr} {d da db : D} {ss : List Stmt} {pos p1 p2 p3 : Pos} {κ α : Type} [DecidableEq κ] {ke : κ → Key} {f : α → D} {kvs : List (κ × α)} {key : κ} {n : Nat} {p : Addr}
end
def Sy.v2 : Sy → Va
  | .knew _ h => .int h
  | .unheard _ h => vaO Va.int h
  | .silent _ a _ => .int a
  | .barred _ q => .str q
section
variable {G : Cfg} {C : Sc} {Γ : Fr} {O : Own} {a : Expr} {pos p1 : Pos} {s : Sy} {j : Nat}
end
section
variable {G : Cfg} {C : Sc} {Γ : Fr} {O : Own} {tg it : Expr} {ds : List D} {n : Nat} {p : Addr}
theorem ei_own (hk : O[n]? = some (p, oLst ds)) (h : E G C it Γ O (dP p)) : EI G C tg it Γ O (fun O' : Own => ∃ m : Nat, O'[m]? = some (p, oLst ds)) ds := .mk fun X c F σ H hh R q =>
  wi_of (pi_list pe_can) (h.run X c F σ H hh _ fun F1 H1 v e1 h1 d1 => by
    have d1' : v = .ref p := d1
    subst d1'
    obtain ⟨_, o, hp, vs, rfl, _⟩ := h1.ho.at hk
    refine ⟨p, rfl, ⟨vs, SqL.of hp⟩, q _ F1 H1 e1 h1 ⟨fun i d hd F O H ⟨m, hm⟩ e h => ?_, fun F O H ⟨m, hm⟩ e h => ?_⟩⟩
    · obtain ⟨_, o, hp, vs, rfl, hal⟩ := h.at hm
      obtain ⟨v, hv, dv⟩ := AllD.get hal hd
      refine ⟨⟨vs, v, SqL.of hp, hv⟩, fun x H' hy => ?_⟩
      obtain ⟨rfl, hx⟩ := hy
      have z := hx vs (SqL.of hp)
      rw [hv] at z
      cases z
      exact ⟨F, Gw.refl F, h, dv⟩
    · obtain ⟨_, o, hp, vs, rfl, hal⟩ := h.at hm
      exact ⟨vs, SqL.of hp, by rw [AllD.length hal]; exact Nat.le_refl _⟩)
end
end Kn
namespace Kn
open PySem PySem.Spec L2 PySem.W PyProof.Rows
theorem le_iff {α : Type} {p : α → PyData} {a b : α} : dataLe false p a b = true ↔ (listOrd itemOrd).kle (keyToks (p a)) (keyToks (p b)) := by
  rw [dataLe_eq]
  show (!dataLt (p b) (p a)) = true ↔ dataLt (p b) (p a) = false
  rw [Bool.not_eq_true']
theorem le_tr {α : Type} {p : α → PyData} {a b c : α} (h1 : dataLe false p a b = true) (h2 : dataLe false p b c = true) : dataLe false p a c = true := le_iff.mpr (KeyOrd.kle_trans (le_iff.mp h1) (le_iff.mp h2))
theorem le_tot {α : Type} {p : α → PyData} (a b : α) : (dataLe false p a b || dataLe false p b a) = true := by
  rw [Bool.or_eq_true, le_iff, le_iff]
  by_cases h : (listOrd itemOrd).klt (keyToks (p b)) (keyToks (p a))
  · exact .inr (KeyOrd.klt_asymm h)
  · exact .inl (KeyOrd.kle_of_not_klt h)
theorem srt_pw {α : Type} (p : α → PyData) (xs : List α) : (srtD p xs).Pairwise fun a b => dataLe false p a b = true :=
  List.pairwise_mergeSort (le := dataLe false p) (fun _ _ _ h1 h2 => le_tr h1 h2) le_tot xs
theorem le_int {α : Type} {p : α → PyData} {k : α → Int} {r : α → List PyData} (h : ∀ x, p x = .tuple (.int (k x) :: r x)) {a b : α} (hl : dataLe false p a b = true) : k a ≤ k b := by
  rw [dataLe_eq] at hl
  have hl' : (!dataLt (p b) (p a)) = true := hl
  rw [h a, h b, Bool.not_eq_true', dataLt_tuple] at hl'
  apply Classical.byContradiction
  intro hn
  have hlt : k b < k a := by omega
  rw [dataLt_all_no (by simp [alike]) (by simp [PyData.eqv]; omega), dataLt_int, decide_eq_true hlt] at hl'
  cases hl'
end Kn
namespace Kn
open PySem PySem.Spec L2
def Wy.len : Wy → Int
  | .saw _ => 2
  | .heard _ _ => 3
section
variable {G : Cfg} {C : Sc} {O : Own} {ds : List D} {w : Wy}
end
end Kn
namespace Kn
open PySem PySem.Spec L2
inductive Stl where
  | story (r : List (Str × Int × Wy))
  | paper (r : List (Str × Option Int)) (n : Int)
def Stl.kd : Stl → Str
  | .story .. => "story"
  | .paper .. => "paper"
def Stl.no : Stl → Int
  | .story .. => 0
  | .paper _ n => n
def Stl.ds (K : PySem.W.Frag) : Stl → List D
  | .story r => [dS "story", dLo K (dT3 K dS dI (dWy K)) r]
  | .paper r n => [dS "paper", dLo K (dT2 K dS (dO dI)) r, dI n]
def dStl (K : PySem.W.Frag) (w : Stl) : D := dTup K (w.ds K)
section
variable {G : Cfg} {C : Sc} {Γ : Fr} {O : Own} {a : Expr} {pos p1 : Pos} {j : Nat} {w : Stl}
end
section
variable {G : Cfg} {C : Sc} {O : Own} {i j : Bool}
end
end Kn
namespace Kn
open PySem PySem.Spec L2
structure DefA (G : Cfg) (g x : Str) (st : Stmt) : Prop where
  ex : ∃ (f : Addr) (fd : FuncData), FunD G.K x x (defArgs st) (defBody st) (defScope st) [] [] f fd ∧ G.mg g = some (.ref f)
theorem DefA.callee {G : Cfg} {g x : Str} {st : Stmt} (d : DefA G g x st) {N ps : List Str} {k : Nat} {S : SpecD} (sc : FnScope N ps (defScope st)) (len : ∀ ds O rk, S ds O rk → ds.length = ps.length)
    (hbind : ∀ (kV doc pm : Value) (an : Option Addr) (cdv ct : Value) (us : List Value), us.length = ps.length → bindArgs (PySem.W.fnOf x x (defArgs st) (defBody st) (defScope st) .none kV doc pm an cdv ct) ⟨us, []⟩ = pure (ps.zip us))
    (hb : ∀ ds O rk, S ds O rk → ∃ (S1 R : Type) (ek : Ek S1 R) (r : R), SS G ⟨k, N, defScope st, true, true⟩ (defBody st) (frame0 N ds) O ek (.rt r) ∧ ek.rs r = rk) : Callee G (k + 1) g S := by
  obtain ⟨f, fd, F, e⟩ := d.ex
  exact callee_of (fn_ok F sc len hb) e F.kp (F.bindsN hbind)
section
variable {G : Cfg} {C : Sc} {Γ : Fr} {O : Own} {a : Expr} {pos p1 p2 p3 : Pos} {j : Nat} {xs : List Int}
end
end Kn
namespace Kn
open PySem PySem.Spec L2
end Kn
namespace Kn
open PySem PySem.Spec L2
instance : DecidableEq Stl
  | .story r, .story s => if h : r = s then .isTrue (by rw [h]) else .isFalse fun e => h (by cases e; rfl)
  | .paper r n, .paper s m => if h : r = s ∧ n = m then .isTrue (by rw [h.1, h.2]) else .isFalse fun e => h (by cases e; exact ⟨rfl, rfl⟩)
  | .story _, .paper _ _ => .isFalse fun e => nomatch e
  | .paper _ _, .story _ => .isFalse fun e => nomatch e
def Stl.len : Stl → Int
  | .story _ => 2
  | .paper _ _ => 3
section
variable {G : Cfg} {C : Sc} {Γ : Fr} {O : Own} {S1 R : Type} {kk : Ek S1 R} {oo : Out S1 R} {e a : Expr} {es : List Expr} {d d' : D} {ds ds' : List D} {ss : List Stmt} {pos p1 p2 : Pos} {x : Str} {i j k n : Nat} {p : Addr} {od : OD} {b : Bool} {w : Stl}
end
end Kn
namespace Kn
open PySem PySem.Spec L2 PyProof.Rows
section
variable {X : Cx} {pins : List (Addr × Obj)} {σ : L2.St} {H : Hp} {sI s s' : Shared} {B : Heap} {a : Addr} {o : HO}
end
section
variable {X : Cx} {x n : Str} {c : Value} {i : Nat} {body suite : List Stmt} {b₀ : Stmt} {np pos pos' : Pos} {tb : WX → TS} {ts : Addr → Value → Option Addr → TS}
end
structure Xd where
  n : Str
  fs : List Str := []
  ds : List D := []
def xok (G : Cfg) (x : Xd) (F : Hp) (c : Value) (d : Option Addr) : Prop := ∃ C, G.mg x.n = some (.ref C) ∧ c = .ref C ∧ match x.fs with
  | [] => d = none
  | f :: fs => ∃ dd vs, d = some dd ∧ F dd = some (.xd ((f :: fs).zip vs)) ∧ vs.length = (f :: fs).length ∧ AllD F x.ds vs
def RK.exc (G : Cfg) (x : Xd) (O : Own) : RK := ⟨fun _ _ _ => False, fun _ z => z, fun F c d H => ∃ F', Gw F F' ∧ HoldO F' O H ∧ xok G x F' c d, fun e ⟨F', e2, h, q⟩ => ⟨F', e.trans e2, h, q⟩⟩
def XD.at (G : Cfg) (x : Xd) (Γ : Fr) (O : Own) : XD := ⟨fun F c d σ H => ∃ F', Gw F F' ∧ Hold F' Γ O σ H ∧ xok G x F' c d, fun e ⟨F', e2, h, q⟩ => ⟨F', e.trans e2, h, q⟩⟩
abbrev Sc.cold (C : Sc) : Sc := ⟨C.k, C.N, C.sc, C.top, false⟩
theorem InC.suite {G : Cfg} {C : Sc} {X : Cx} (c : InC G C X) {a : Addr} {pn : List (Addr × Obj)} : InC G C.cold (X.suite a pn) := ⟨c.p, c.w, c.K, c.mg, c.base, c.n, c.sc, fun z => (Bool.false_ne_true z).elim, c.un, c.dp, fun z => (Bool.false_ne_true z).elim, c.st, PassesOwn.never, c.fn⟩
section
variable {G : Cfg} {C : Sc} {Γ Γ1 : Fr} {O O1 : Own} {S1 S2 R R2 B : Type} {kk : Ek S1 R} {oo : Out S1 R} {e a b : Expr} {es : List Expr} {d d' : D} {ds ds' : List D} {ss suite body : List Stmt} {b₀ : Stmt} {pos pos' np p1 p2 p3 : Pos} {x y n m : Str} {i j k : Nat} {xd : Xd} {S : SpecD}
end
end Kn
namespace Kn
open PySem PySem.Spec L2 PyProof.Rows
section
variable {G : Cfg} {C : Sc} {Γ : Fr} {O : Own} {pos : Pos} {x y : Str} {t : String} {xd : Xd} {b : Bool}
end
section
variable {K : PySem.W.Frag} {P : Program} {w : World} {mg : Str → Option Value} {base h : Heap} {x y : Str} {t : String} {b : Bool}
end
section
variable {G : Cfg} {C : Sc} {Γ : Fr} {O : Own} {S1 R B : Type} {kk : Ek S1 R} {oo : Out S1 R} {a b c : Expr} {ds ds' : List D} {ta ss : List Stmt} {pos : Pos} {α : Type} {f : α → D}
end
end Kn
namespace Kn
open PySem PySem.Spec L2
def lo {α β : Type} (o : Option α) (n : β) (f : α → β) : β := match o with
  | none => n
  | some x => f x
section
variable {G : Cfg} {C : Sc} {Γ Γ' : Fr} {O : Own} {S1 R B : Type} {kk : Ek S1 R} {oo : Out S1 R} {e a b c : Expr} {es : List Expr} {d d' : D} {ds : List D} {ss ta tb body : List Stmt} {pos p1 p2 p3 : Pos} {x : Str} {α : Type} {f : α → OD} {n m i k : Nat} {p q : Addr} {od : OD}
end
end Kn
namespace Kn
open PySem PySem.Spec L2
end Kn
namespace Kn
open PySem PySem.Spec L2
section
variable {α β : Type}
theorem app_le {c : Bool} {s : List α} {x : α} : (if c = true then lt (s ++ [x]) fun y => y else s).length ≤ s.length + 1 := by
  split
  · show (s ++ [x]).length ≤ _; rw [List.length_append]; exact Nat.le_refl _
  · omega
theorem app_len {c : Bool} {s t : List α} {x : α} (h : s = if c = true then lt (t ++ [x]) fun y => y else t) : s.length ≤ t.length + 1 := by
  rw [h]
  exact app_le
theorem cut_len2 {xs : List α} {i j : Int} (h : 0 ≤ i) : ((cut xs (some i) (some j)).length : Int) ≤ max 0 ((xs.length : Int) - i) := by
  have e1 : HT.sIx xs.length 0 (some i) = min i.toNat xs.length := by unfold HT.sIx; simp only []; split <;> omega
  unfold cut
  rw [e1, List.length_take, List.length_drop]
  omega
end
end Kn
namespace Kn
open PySem PySem.Spec L2 RT PyProof.Rows PySem.W
section
variable {prog : Program} {w : World} {Ar : Around} {E0 : Value → Shared → Prop} {sh : Shared}
end
section
variable {X : Cx}
end
section
variable {G : Cfg} {C : Sc} {Γ : Fr} {O : Own} {a : Expr} {p1 p2 p3 p4 : Pos} {α : Type} {f : α → D}
end
end Kn
namespace Kn
open PySem PySem.Spec L2
def SD.own (S : Own → Prop) : SD := ⟨fun F _ H => ∃ F' O', S O' ∧ Gw F F' ∧ HoldO F' O' H, fun e ⟨F', O', h1, e2, h2⟩ => ⟨F', O', h1, e.trans e2, h2⟩⟩
section
variable {G : Cfg} {C : Sc} {Γ : Fr} {O : Own} {S1 R B : Type} {kk : Ek S1 R} {oo : Out S1 R} {e a b c o : Expr} {es : List Expr} {d da db : D} {ds fs : List D} {ss ta : List Stmt} {pos p1 p2 p3 : Pos} {x f m y : Str} {α β : Type} {ns : List Str} {S : SpecD} {k n : Nat} {p : Addr} {od : OD}
theorem ss_dropT {T : (Own → D → Prop) → Prop} (h : ET G C e Γ O T) (hs : ∀ env, swapsWith e none pos.line env = pure false) (hr : T fun O' _ => SS G C ss Γ O' kk oo) : SS G C (.Expr e pos :: ss) Γ O kk oo :=
  ss_cons (t := fun X => tDrop (WE X e)) (fun X _ => ps_expr pe_can (hs X.env)) fun X c W tk F σ H hh D mm => h.run X c F σ H hh _ hr _ fun F1 H1 v O' d r e1 h1 d1 => r.run X c W tk F1 σ H1 h1 D (meet.mono e1 mm)
end
end Kn
namespace Kn
open PySem PySem.Spec L2
abbrev SightV := Str × Int × List Str
abbrev TalkV := Int × Str × Str × Str
inductive Dd where
  | see (s : SightV)
  | talk (t : TalkV)
  | say (y : Sy)
  | unsay (n : Int)
instance : Inhabited Dd := ⟨.unsay 0⟩
def Dd.kd : Dd → Str
  | .see _ => "see"
  | .talk _ => "talk"
  | .say _ => "say"
  | .unsay _ => "unsay"
def Dd.sight : Dd → SightV
  | .see s => s
  | _ => default
def Dd.tk : Dd → TalkV
  | .talk t => t
  | _ => default
def Dd.no : Dd → Int
  | .unsay n => n
  | _ => 0
def Dd.ds (K : PySem.W.Frag) : Dd → List D
  | .see s => [dS "see", dT3 K dS dI (dVt K dS) s]
  | .talk t => [dS "talk", dT4 K dI dS dS dS t]
  | .say y => [dS "say", dSy K y]
  | .unsay n => [dS "unsay", dI n]
section
variable {G : Cfg} {C : Sc} {Γ : Fr} {O : Own} {a : Expr} {w : Dd} {p1 pos : Pos} {n : Nat}
end
end Kn
namespace Kn
open PySem PySem.Spec L2
section
variable {G : Cfg} {C : Sc} {Γ : Fr} {O : Own} {α β γ δ ε : Type} {f : α → D} {g : β → D} {h : γ → D} {i : δ → D} {j : ε → D} {a : Expr} {p1 pos : Pos}
end
end Kn
namespace Kn
open PySem PySem.Spec PyProof.Rows L2
abbrev NE := NestedKey × Addr × V
abbrev NX := NestedKey × Addr × Value
def entN (p : NE) (q : NX) : Prop := p.1 = q.1 ∧ p.2.1 = q.2.1 ∧ RelV p.2.2 q.2.2
def nDict (P : Program) (w : World) (a : Addr) (us : List NE) (h : Heap) : Prop :=
  us.length ≤ sizeLine ∧ (a == sysModules) = false ∧ ∃ xs : List NX, Paired entN us xs ∧ ∃ o es ep, h.get? a = some o ∧ o.ExactDict ∧ o.data = .dict es ep ∧ es.toList = xs.map (entryOfKey (nestedKind P w)) ∧ (xs.map (·.1)).Nodup
def hoN (P : Program) (w : World) (a : Addr) (us : List NE) : HO := .ext (nDict P w a us)
def NK (X : Cx) (H : Hp) (k : NestedKey) (b : Addr) : Prop := k.depth ≤ 8 ∧ ∀ pins σ s, Inv X pins σ H s → NestedIs s.heap k (.ref b)
def NDic (X : Cx) (H : Hp) (a : Addr) (us : List NE) : Prop := Rd H a (hoN X.prog X.w a us) ∧ ∀ u ∈ us, NK X H u.1 u.2.1
def valN (us : List NE) (k : NestedKey) : Option V := (us.find? fun u => decide (u.1 = k)).map (·.2.2)
def putN (us : List NE) (k : NestedKey) (b : Addr) (v : V) : List NE := if (us.any fun u => decide (u.1 = k)) = true then us.map (fun u => if u.1 = k then (u.1, u.2.1, v) else u) else us ++ [(k, b, v)]
theorem entN_find {us : List NE} {xs : List NX} (h : Paired entN us xs) (k : NestedKey) : RelO (valN us k) ((atKey xs k).map (·.2)) := by
  unfold valN atKey
  induction h with
  | nil => trivial
  | @cons p q us xs r t ih =>
    by_cases e : p.1 = k
    · have e2 : q.1 = k := r.1.symm.trans e
      rw [List.find?_cons_of_pos (by simp [e]), List.find?_cons_of_pos (by simp [e2])]
      exact r.2.2
    · have e2 : ¬ q.1 = k := fun z => e (r.1.trans z)
      rw [List.find?_cons_of_neg (by simp [e]), List.find?_cons_of_neg (by simp [e2])]
      exact ih
theorem entN_any {us : List NE} {xs : List NX} (h : Paired entN us xs) (k : NestedKey) : (us.any fun u => decide (u.1 = k)) = (atKey xs k).isSome := by
  unfold atKey
  induction h with
  | nil => rfl
  | @cons p q us xs r t ih =>
    rw [List.any_cons]
    by_cases e : p.1 = k
    · have e2 : q.1 = k := r.1.symm.trans e
      rw [List.find?_cons_of_pos (by simp [e2])]
      simp [e]
    · have e2 : ¬ q.1 = k := fun z => e (r.1.trans z)
      rw [List.find?_cons_of_neg (by simp [e2]), ih]
      simp [e]
theorem entN_put {us : List NE} {xs : List NX} (h : Paired entN us xs) (k : NestedKey) (b : Addr) {v : V} {u : Value} (r : RelV v u) : Paired entN (putN us k b v) (storedH xs k b u) := by
  unfold putN storedH
  rw [entN_any h]
  by_cases q : (atKey xs k).isSome = true
  · rw [if_pos q, if_pos q]
    clear q
    induction h with
    | nil => exact .nil
    | @cons p q us xs r1 t ih =>
      rw [List.map_cons, List.map_cons]
      refine .cons ?_ ih
      unfold putAt
      by_cases e : p.1 = k
      · rw [if_pos e, if_pos (r1.1.symm.trans e)]; exact ⟨r1.1, r1.2.1, r⟩
      · rw [if_neg e, if_neg fun z => e (r1.1.trans z)]; exact r1
  · rw [if_neg q, if_neg q]
    exact Paired.snoc h ⟨rfl, rfl, r⟩
theorem putN_len {us : List NE} {k : NestedKey} {b : Addr} {v : V} : (putN us k b v).length ≤ us.length + 1 := by
  unfold putN
  split
  · rw [List.length_map]; omega
  · rw [List.length_append]; exact Nat.le_refl _
theorem nDict_stay {P : Program} {w : World} {a : Addr} {us : List NE} {h1 h2 : Heap} (x : nDict P w a us h1) (k : ∀ o, h1.get? a = some o → h2.get? a = some o) : nDict P w a us h2 := by
  obtain ⟨z, hd, xs, r, o, es, ep, e, q⟩ := x
  exact ⟨z, hd, xs, r, o, es, ep, k o e, q⟩
theorem hoN_ok {P : Program} {w : World} {H : Hp} {h : Heap} {a : Addr} {us : List NE} (x : nDict P w a us h) : ObjOk P w H h a (hoN P w a us) := by
  refine ⟨x, ?_, fun h1 h2 y k => nDict_stay y k⟩
  obtain ⟨_, _, xs, r, o, es, ep, e, q⟩ := x
  exact ⟨o, e⟩
section
variable {X : Cx} {pins : List (Addr × Obj)} {σ : L2.St} {H : Hp} {s : Shared} {a b : Addr} {us : List NE} {k : NestedKey} {A : Around} {E : Value → Shared → Prop}
theorem nd_ok (I : Inv X pins σ H s) (h : Rd H a (hoN X.prog X.w a us)) : nDict X.prog X.w a us s.heap := (show ObjOk X.prog X.w H s.heap a (hoN X.prog X.w a us) from h.ok I.hok).1
theorem paired_mem {α β : Type} {G : α → β → Prop} {l₁ : List α} {l₂ : List β} (h : Paired G l₁ l₂) : ∀ b ∈ l₂, ∃ a ∈ l₁, G a b := by
  induction h with
  | nil => intro b hb; cases hb
  | @cons x y l₁ l₂ r t ih =>
    intro b hb
    rcases List.mem_cons.mp hb with rfl | hb
    · exact ⟨x, List.mem_cons_self, r⟩
    · obtain ⟨z, hz, q⟩ := ih b hb
      exact ⟨z, List.mem_cons_of_mem _ hz, q⟩
theorem NDic.of (I : Inv X pins σ H s) (h : NDic X H a us) : us.length ≤ sizeLine ∧ (a == sysModules) = false ∧ ∃ xs, Paired entN us xs ∧ s.heap.DictOfH (nestedKind X.prog X.w) a xs := by
  obtain ⟨z, hd, xs, r, o, es, ep, e, hx, hdt, he, hn⟩ := nd_ok I h.1
  refine ⟨z, hd, xs, r, o, es, ep, e, hx, hdt, he, fun x hx => ?_, hn⟩
  obtain ⟨u, hu, q⟩ := paired_mem r x hx
  obtain ⟨q1, q2⟩ := h.2 u hu
  rw [← q.1, ← q.2.1]
  exact ⟨q2 pins σ s I, q1⟩
theorem NK.is (I : Inv X pins σ H s) (h : NK X H k b) : (nestedKind X.prog X.w).is s.heap k b := ⟨h.2 pins σ s I, h.1⟩
abbrev roomN (X : Cx) : Prop := X.A.units + 60 < cLine
theorem roomN1 (hu : A.units + 60 < cLine) : (nestedKind X.prog X.w).room A.in1 := by
  show A.in1.units + 8 < cLine
  rw [Around.in1_units]
  omega
theorem n_get2 {d : V} {r : Value} {Q : Value → Shared → Prop} (hu : A.units + 60 < cLine) (I : Inv X pins σ H s) (g : NDic X H a us) (hk : NK X H k b) (rd : RelV d r) (h : ∀ w' s', Inv X pins σ H s' → RelV ((valN us k).getD d) w' → Q w' s') :
    wpAny (model X.prog X.w) A (call (.builtin "dict.get") [.ref a, .ref b, r]) Q E s := by
  obtain ⟨z, hd, xs, rel, dd⟩ := g.of I
  refine call_meetsIn PySem.F.slot_dict_get dd.typeIs PySem.F.entry_dict_get (PySem.F.args_dict_get_3 _ _ _) (meetsH_dict_get_default (nestedKind X.prog X.w) a b hd r) ⟨roomN1 hu, k, xs, hk.is I, dd, h _ _ (I.tok _) ?_⟩
  exact (entN_find rel k).getD rd
theorem n_setItem {v : V} {r : Value} {Q : Unit → Shared → Prop} (hu : A.units + 60 < cLine) (I : Inv X pins σ H s) (hm : H a = some (hoN X.prog X.w a us)) (g : ∀ u ∈ us, NK X H u.1 u.2.1) (hk : NK X H k b) (hl : us.length < sizeLine) (rv : RelV v r)
    (h : ∀ s', Inv X pins σ (upd H a (hoN X.prog X.w a (putN us k b v))) s' → Q () s') : wpAny (model X.prog X.w) A (setItem (.ref a) (.ref b) r) Q E s := by
  obtain ⟨z, hd, xs, rel, dd⟩ := NDic.of I (us := us) ⟨.inl hm, g⟩
  have hz : xs.length ≤ sizeLine := by rw [← Paired.length rel]; exact z
  refine wpAny_setItem_heap (hsz := hz) (roomN1 hu) (hk.is I) dd fun h' dd' hs => h _ ?_
  obtain ⟨q, es, ep, hq, h2, h3, h4, _, h5⟩ := dd'
  refine d_write I (by rw [hm]; exact True.intro) hs ⟨q, hq⟩ (hoN_ok ⟨?_, hd, _, entN_put rel k b rv, q, es, ep, hq, h2, h3, h4, h5⟩)
  have := putN_len (us := us) (k := k) (b := b) (v := v)
  omega
theorem n_typeIs (I : Inv X pins σ H s) (g : Rd H a (hoN X.prog X.w a us)) : s.TypeIs (.ref a) "dict" := by
  obtain ⟨_, _, xs, r, o, es, ep, e, hx, _⟩ := nd_ok I g
  exact ⟨o, e, hx.1⟩
theorem n_noDict (I : Inv X pins σ H s) (g : Rd H a (hoN X.prog X.w a us)) : ∀ b, Value.ref a = .ref b → ∃ ob, s.heap.get? b = some ob ∧ ob.dict = none := fun b q => by
  cases q
  obtain ⟨_, _, xs, r, o, es, ep, e, hx, _⟩ := nd_ok I g
  exact ⟨o, e, hx.2.1⟩
end
def NIs (K : PySem.W.Frag) (d : D) (k : NestedKey) : Prop := ∀ F H v, Gw F H → d.ok F v → ∀ (X : Cx) (pins : List (Addr × Obj)) (σ : L2.St) (s : Shared) (u : Value), X.K = K → Inv X pins σ H s → RelV v u → NestedIs s.heap k u
theorem nis_S {K : PySem.W.Frag} {i : Str} : NIs K (dS i) (.text i) := fun F H v _ hd X pins σ s u _ _ r => by
  have hd' : v = .str i := hd.1
  subst hd'
  obtain ⟨t, rfl⟩ := r
  exact .text _ _
inductive NIsL (K : PySem.W.Frag) : List D → List NestedKey → Prop
  | nil : NIsL K [] []
  | cons {d k ds ks} : NIs K d k → NIsL K ds ks → NIsL K (d :: ds) (k :: ks)
theorem nisL_all {K : PySem.W.Frag} {F H : Hp} (e : Gw F H) {X : Cx} {pins : List (Addr × Obj)} {σ : L2.St} {s : Shared} (hK : X.K = K) (I : Inv X pins σ H s) {ds : List D} {ks : List NestedKey} (h : NIsL K ds ks) : ∀ {vs : List V} {us : List Value}, AllD F ds vs → Vals vs us → NestedAll s.heap ks us := by
  induction h with
  | nil =>
    intro vs us h1 h2
    cases vs with
    | nil => cases h2; exact .nil
    | cons _ _ => exact h1.elim
  | @cons d k ds ks hd _ ih =>
    intro vs us h1 h2
    cases vs with
    | nil => exact h1.elim
    | cons v vs =>
      cases h2 with
      | cons r t => exact .cons (hd F H v e h1.1 X pins σ s _ hK I r) (ih h1.2 t)
theorem nis_tup {K : PySem.W.Frag} {ds : List D} {ks : List NestedKey} (h : NIsL K ds ks) : NIs K (dTup K ds) (.tup ks) := fun F H v e hd X pins σ s u hK I r => by
  obtain ⟨a, vs, rfl, hs, ha⟩ := hd
  cases r
  rcases gw_t e hs with hr | ⟨o, its, n, h1, h2, h3, h4, h5⟩
  · obtain ⟨_, its, rv, o, h1, h2, n, h3⟩ := (show ObjOk X.prog X.w H s.heap a (.tup vs) from hr.ok I.hok)
    exact .tup h1 h2 h3 (by simpa using nisL_all e hK I h ha rv)
  · rw [← hK] at h1
    exact .tup (I.kIn a _ h1) h2 h3 (nisL_all e hK I h ha h5)
theorem nisL_S {K : PySem.W.Frag} : ∀ (ws : List Str), NIsL K (ws.map dS) (ws.map NestedKey.text)
  | [] => .nil
  | _ :: ws => .cons nis_S (nisL_S ws)
structure NKey {κ : Type} (K : PySem.W.Frag) (kn : κ → NestedKey) (dk : κ → D) : Prop where
  inj : ∀ a b, kn a = kn b ↔ a = b
  dep : ∀ k, (kn k).depth ≤ 8
  ref : ∀ k F v, (dk k).ok F v → ∃ b, v = .ref b
  is : ∀ k, NIs K (dk k) (kn k)
def knST (x : Str × List Str) : NestedKey := .tup [.text x.1, .tup (x.2.map .text)]
theorem text_inj : ∀ {a b : List Str}, a.map NestedKey.text = b.map NestedKey.text → a = b
  | [], [], _ => rfl
  | x :: a, y :: b, h => by
    rw [List.map_cons, List.map_cons] at h
    injection h with h1 h2
    injection h1 with h1
    rw [h1, text_inj h2]
  | [], _ :: _, h => by simp at h
  | _ :: _, [], h => by simp at h
theorem text_dep : ∀ (a : List Str), NestedKey.depthAll (a.map NestedKey.text) = 0
  | [] => rfl
  | _ :: a => by rw [List.map_cons, NestedKey.depthAll, text_dep a]; rfl
theorem nk_ST {K : PySem.W.Frag} : NKey K knST (dT2 K dS (dVt K dS)) where
  inj := fun a b => by
    refine ⟨fun h => ?_, fun h => by rw [h]⟩
    obtain ⟨a1, a2⟩ := a
    obtain ⟨b1, b2⟩ := b
    simp only [knST, NestedKey.tup.injEq, List.cons.injEq, NestedKey.text.injEq, and_true] at h
    rw [h.1, text_inj h.2]
  dep := fun k => by simp [knST, NestedKey.depth, NestedKey.depthAll, text_dep]
  ref := fun k F v h => let ⟨a, _, e, _⟩ := h; ⟨a, e⟩
  is := fun k => nis_tup (.cons nis_S (.cons (nis_tup (nisL_S k.2)) .nil))
section
variable {κ α : Type}
def AllN (F : Hp) (kn : κ → NestedKey) (dk : κ → D) (f : α → D) : List (κ × α) → List NE → Prop
  | [], [] => True
  | q :: kvs, u :: us => (u.1 = kn q.1 ∧ (dk q.1).ok F (.ref u.2.1) ∧ (f q.2).ok F u.2.2) ∧ AllN F kn dk f kvs us
  | _, _ => False
variable {F F' : Hp} {kn : κ → NestedKey} {dk : κ → D} {f : α → D}
theorem AllN.mono (e : Gw F F') : ∀ {kvs : List (κ × α)} {us : List NE}, AllN F kn dk f kvs us → AllN F' kn dk f kvs us
  | [], [], _ => trivial
  | _ :: _, _ :: _, h => ⟨⟨h.1.1, (dk _).mono e h.1.2.1, (f _).mono e h.1.2.2⟩, AllN.mono e h.2⟩
  | [], _ :: _, h => h.elim
  | _ :: _, [], h => h.elim
theorem AllN.length : ∀ {kvs : List (κ × α)} {us : List NE}, AllN F kn dk f kvs us → us.length = kvs.length
  | [], [], _ => rfl
  | _ :: _, _ :: _, h => by rw [List.length_cons, List.length_cons, AllN.length h.2]
  | [], _ :: _, h => h.elim
  | _ :: _, [], h => h.elim
theorem AllN.snoc {k : κ} {y : α} {b : Addr} {v : V} (hk : (dk k).ok F (.ref b)) (hv : (f y).ok F v) : ∀ {kvs : List (κ × α)} {us : List NE}, AllN F kn dk f kvs us → AllN F kn dk f (kvs ++ [(k, y)]) (us ++ [(kn k, b, v)])
  | [], [], _ => ⟨⟨rfl, hk, hv⟩, trivial⟩
  | _ :: _, _ :: _, h => ⟨h.1, AllN.snoc hk hv h.2⟩
  | [], _ :: _, h => h.elim
  | _ :: _, [], h => h.elim
theorem AllN.get : ∀ {kvs : List (κ × α)} {us : List NE} {i : Nat} {q : κ × α}, AllN F kn dk f kvs us → kvs[i]? = some q → ∃ u, us[i]? = some u ∧ u.1 = kn q.1 ∧ (dk q.1).ok F (.ref u.2.1) ∧ (f q.2).ok F u.2.2
  | [], [], _, _, _, e => by simp at e
  | _ :: _, u :: _, 0, _, h, e => by simp at e; subst e; exact ⟨u, rfl, h.1⟩
  | _ :: _, _ :: _, i + 1, q, h, e => by
    obtain ⟨u, h1, h2⟩ := AllN.get (i := i) (q := q) h.2 (by simpa using e)
    exact ⟨u, by simpa using h1, h2⟩
  | [], _ :: _, _, _, h, _ => h.elim
  | _ :: _, [], _, _, h, _ => h.elim
theorem AllN.keys {X : Cx} {H : Hp} {K : PySem.W.Frag} (nk : NKey K kn dk) (hK : X.K = K) (e : Gw F H) : ∀ {kvs : List (κ × α)} {us : List NE}, AllN F kn dk f kvs us → ∀ u ∈ us, NK X H u.1 u.2.1
  | [], [], _, u, hu => nomatch hu
  | q :: _, w :: _, h, u, hu => by
    rcases List.mem_cons.mp hu with rfl | hu
    · obtain ⟨h1, h2, _⟩ := h.1
      rw [h1]
      exact ⟨nk.dep _, fun pins σ s I => nk.is q.1 F H _ e h2 X pins σ s _ hK I rfl⟩
    · exact AllN.keys nk hK e h.2 u hu
  | [], _ :: _, h, _, _ => h.elim
  | _ :: _, [], h, _, _ => h.elim
variable [DecidableEq κ]
theorem AllN.find {K : PySem.W.Frag} (nk : NKey K kn dk) {k : κ} : ∀ {kvs : List (κ × α)} {us : List NE}, AllN F kn dk f kvs us → (∀ a, dFind kvs k = some a → ∃ v, valN us (kn k) = some v ∧ (f a).ok F v) ∧ (dFind kvs k = none → valN us (kn k) = none)
  | [], [], _ => ⟨fun a h => (by cases h), fun _ => rfl⟩
  | q :: kvs, u :: us, h => by
    have ih := AllN.find nk (k := k) h.2
    unfold valN at ih ⊢
    by_cases e : q.1 = k
    · have e2 : u.1 = kn k := by rw [h.1.1, e]
      rw [List.find?_cons_of_pos (by simp [e2])]
      have ef : dFind (q :: kvs) k = some q.2 := by rw [dFind, if_pos e]
      rw [ef]
      exact ⟨fun a ha => by cases ha; exact ⟨_, rfl, h.1.2.2⟩, fun z => by cases z⟩
    · have e2 : ¬ u.1 = kn k := by rw [h.1.1]; exact fun z => e ((nk.inj _ _).mp z)
      rw [List.find?_cons_of_neg (by simp [e2])]
      have ef : dFind (q :: kvs) k = dFind kvs k := by rw [dFind, if_neg e]
      rw [ef]
      exact ih
  | [], _ :: _, h => h.elim
  | _ :: _, [], h => h.elim
theorem AllN.has {K : PySem.W.Frag} (nk : NKey K kn dk) {k : κ} {kvs : List (κ × α)} {us : List NE} (h : AllN F kn dk f kvs us) : (valN us (kn k)).isSome = dHas kvs k := by
  rw [dHas_find]
  cases hz : dFind kvs k with
  | none => rw [(h.find nk (k := k)).2 hz]; rfl
  | some t =>
    obtain ⟨u, hu, _⟩ := (h.find nk (k := k)).1 t hz
    rw [hu]; rfl
theorem AllN.any {K : PySem.W.Frag} (nk : NKey K kn dk) {k : κ} : ∀ {kvs : List (κ × α)} {us : List NE}, AllN F kn dk f kvs us → (us.any fun u => decide (u.1 = kn k)) = dHas kvs k
  | [], [], _ => rfl
  | q :: kvs, u :: us, h => by
    have ih := AllN.any nk (k := k) h.2
    show (decide (u.1 = kn k) || us.any _) = (decide (q.1 = k) || dHas kvs k)
    rw [ih, h.1.1, dec_iff (nk.inj _ _)]
  | [], _ :: _, h => h.elim
  | _ :: _, [], h => h.elim
theorem AllN.put {K : PySem.W.Frag} (nk : NKey K kn dk) {k : κ} {y : α} {b : Addr} {v : V} (hk : (dk k).ok F (.ref b)) (hv : (f y).ok F v) {kvs : List (κ × α)} {us : List NE} (h : AllN F kn dk f kvs us) : AllN F kn dk f (dPut kvs k y) (putN us (kn k) b v) := by
  unfold dPut putN
  rw [h.any nk]
  by_cases q : dHas kvs k = true
  · rw [if_pos q, if_pos q]
    clear q
    revert us
    induction kvs with
    | nil =>
      intro us h
      cases us with
      | nil => trivial
      | cons _ _ => exact h.elim
    | cons p kvs ih =>
      intro us h
      cases us with
      | nil => exact h.elim
      | cons u us =>
        rw [List.map_cons, List.map_cons]
        refine ⟨?_, ih h.2⟩
        by_cases e : p.1 = k
        · rw [if_pos e, if_pos (by rw [h.1.1, e])]
          exact ⟨h.1.1, h.1.2.1, hv⟩
        · rw [if_neg e, if_neg (by rw [h.1.1]; exact fun z => e ((nk.inj _ _).mp z))]
          exact h.1
  · rw [if_neg q, if_neg q]
    exact AllN.snoc hk hv h
end
def oDn {κ α : Type} (G : Cfg) (kn : κ → NestedKey) (dk : κ → D) (f : α → D) (p : Addr) (kvs : List (κ × α)) : OD := ⟨fun F o => ∃ us, o = hoN G.P G.w p us ∧ AllN F kn dk f kvs us, fun e ⟨us, h1, h2⟩ => ⟨us, h1, h2.mono e⟩⟩
def dDn {κ α : Type} (G : Cfg) (kn : κ → NestedKey) (dk : κ → D) (f : α → D) (kvs : List (κ × α)) : D := ⟨fun F v => ∃ a us od, v = .ref a ∧ F a = some (.frz od (hoN G.P G.w a us)) ∧ AllN F kn dk f kvs us, fun e ⟨a, us, od, h1, h2, h3⟩ => ⟨a, us, od, h1, e a _ h2, h3.mono e⟩⟩
structure DAt {κ α : Type} (G : Cfg) (O : Own) (d : D) (kn : κ → NestedKey) (dk : κ → D) (f : α → D) (kvs : List (κ × α)) : Prop where
  at_ : ∀ F H v, HoldO F O H → d.ok F v → ∃ a us, v = .ref a ∧ Rd H a (hoN G.P G.w a us) ∧ AllN F kn dk f kvs us
section
variable {G : Cfg} {C : Sc} {Γ : Fr} {O : Own} {S1 R B : Type} {kk : Ek S1 R} {oo : Out S1 R} {e a b c : Expr} {es : List Expr} {d da db : D} {ss : List Stmt} {pos p1 p2 p3 : Pos} {x : Str} {κ α : Type} {kn : κ → NestedKey} {dk : κ → D} {f : α → D} {kvs : List (κ × α)} {key : κ} {n : Nat} {p : Addr}
theorem da_own (hk : O[n]? = some (p, oDn G kn dk f p kvs)) : DAt G O (dP p) kn dk f kvs := ⟨fun F H v hh hv => by
  have hv' : v = .ref p := hv
  subst hv'
  obtain ⟨_, o, hp, us, rfl, ha⟩ := hh.at hk
  exact ⟨p, us, rfl, .inl hp, ha⟩⟩
theorem InC.rm {X : Cx} (c : InC G C X) : X.A.units + 60 < cLine := by have := c.un; omega
theorem E.go (h : E G C e Γ O d) {X : Cx} (c : InC G C X) {F : Hp} {σ : L2.St} {H : Hp} (hh : Hold F Γ O σ H) {pins : List (Addr × Obj)} {s : Shared} (I : Inv X pins σ H s) :
    wpAny (model X.prog X.w) X.A (eval e X.env) (fun u s' => ∃ v F' H', Inv X pins σ H' s' ∧ RelV v u ∧ Gw F F' ∧ Hold F' Γ O σ H' ∧ d.ok F' v) X.xe s :=
  thn (h.run X c F σ H hh (fun v H' => ∃ F', Gw F F' ∧ Hold F' Γ O σ H' ∧ d.ok F' v) (fun F' H' v e1 h1 d1 => ⟨F', e1, h1, d1⟩) pins s I) fun u s' ⟨v, H', I', r, F', e1, h1, d1⟩ => ⟨v, F', H', I', r, e1, h1, d1⟩
theorem et_dn0 : ET G C (.Dict [] [] pos) Γ O (fun R => ∀ p, R ((p, oDn G kn dk f p ([] : List (κ × α))) :: O) (dP p)) := .mk fun X c F σ H hh R t Q q pins s I => by
  refine wpAny_Dict_empty ⟨.ref s.heap.objs.size, upd H s.heap.objs.size (hoN X.prog X.w s.heap.objs.size []), I.laid (a := s.heap.objs.size) (t' := s.toks) (fun _ _ q => Heap.get?_push_of_some _ q) (Nat.le_refl _) (hoN_ok ?_), rfl, ?_⟩
  · exact ⟨Nat.zero_le _, beq_eq_false_iff_ne.mpr (Ne.symm (Nat.ne_of_lt I.big)), [], .nil, _, #[], 0, Heap.get?_push_size _ rfl, ⟨rfl, rfl, rfl⟩, rfl, rfl, List.nodup_nil⟩
  · have hp := I.hok.fresh (Nat.le_refl s.heap.objs.size)
    exact q F _ (.ref s.heap.objs.size) _ _ (t s.heap.objs.size) (Gw.refl F) ⟨hh.fr, hh.ho.own hp ⟨[], by rw [c.p, c.w], trivial⟩⟩ rfl
variable [DecidableEq κ]
theorem e_get2N {y : α} (nk : NKey G.K kn dk) (dt : DAt G O d kn dk f kvs) (ha : E G C a Γ O d) (hb : E G C b Γ O (dk key)) (hc : E G C c Γ O (f y)) (m : ∀ X, M2 X a "get" p1 b c pos) : E G C (.Call (.Attribute a "get" p1) [b, c] [] pos) Γ O (f ((dFind kvs key).getD y)) := .mk fun X cc F σ H h0 Q q pins s I => by
  refine wpAny_Call_method (m X).base (m X).few (m X).line PySem.F.plainAttrs_dict PySem.F.slot_dict_get PySem.F.type_dict_get (thn (ha.go cc h0 I) fun u s1 ⟨v, F1, H1, I1, rv, e1, h1, d1⟩ => ?_)
  obtain ⟨a1, us1, rfl, hr1, hal1⟩ := dt.at_ F1 H1 v h1.ho d1
  obtain rfl : u = Value.ref a1 := rv
  rw [← cc.p, ← cc.w] at hr1
  refine ⟨n_typeIs I1 hr1, n_noDict I1 hr1, ?_⟩
  rw [(m X).trees]
  refine Calls.callWith_builtin rfl (Calls.evalArgs_plain (Calls.spliced_cons (thn (hb.go cc h1 I1) fun iv s2 ⟨y2, F2, H2, I2, ry, e2, h2, d2⟩ => Calls.spliced_cons (thn (hc.go cc h2 I2) fun zv s3 ⟨z, F3, H3, I3, rz, e3, h3, d3⟩ => Calls.spliced_nil ?_))))
  have d2' := (dk key).mono e3 d2
  obtain ⟨b2, rfl⟩ := nk.ref _ _ _ d2
  obtain rfl : iv = Value.ref b2 := ry
  obtain ⟨a3, us, ea, hr, hal⟩ := dt.at_ F3 H3 _ h3.ho (d.mono e3 (d.mono e2 d1))
  cases ea
  rw [← cc.p, ← cc.w] at hr
  refine n_get2 cc.rm I3 ⟨hr, hal.keys nk cc.K h3.ho.ex⟩ ⟨nk.dep _, fun pins σ s I => nk.is key F3 H3 _ h3.ho.ex d2' X pins σ s _ cc.K I rfl⟩ rz fun w' s4 I4 rw' => ⟨_, H3, I4, rw', q F3 H3 _ ((e1.trans e2).trans e3) h3 ?_⟩
  cases hz : dFind kvs key with
  | none => rw [(hal.find nk (k := key)).2 hz]; exact d3
  | some t =>
    obtain ⟨w, hw, dw⟩ := (hal.find nk (k := key)).1 t hz
    rw [hw]; exact dw
theorem ss_putN {y : α} {g : List (κ × α) → B} (ι : B → Out S1 R) (nk : NKey G.K kn dk) (hk : O[n]? = some (p, oDn G kn dk f p kvs)) (ha : E G C a Γ O (dP p)) (hb : E G C b Γ O (dk key)) (h : E G C e Γ O (f y)) (hz : kvs.length < 16000000) (hs : ∀ env, swapsWith e (some (.Subscript a b p1)) pos.line env = pure false)
    (hr : ∀ ys, ys = dPut kvs key y → SS G C ss Γ (O.set n (p, oDn G kn dk f p ys)) kk (ι (g ys))) : SS G C (.Assign [.Subscript a b p1] e pos :: ss) Γ O kk (ι (lt (dPut kvs key y) g)) := by
  refine ss_cons (t := fun X D σ H => ∀ pins s, Inv X pins σ H s → wpAny (model X.prog X.w) X.A (exec (.Assign [.Subscript a b p1] e pos) X.env) (SP X pins D) X.xe s) (fun X cc => ⟨fun pins s σ H D I h => h pins s I⟩) fun X cc W tk F σ H hh D mm pins s I => ?_
  refine wpAny_Assign_Subscript (thn (h.go cc hh I) fun r s1 ⟨v, F1, H1, I1, rv, e1, h1, d1⟩ => thn (ha.go cc h1 I1) fun u s2 ⟨x, F2, H2, I2, rx, e2, h2, d2⟩ => thn (hb.go cc h2 I2) fun iv s3 ⟨z, F3, H3, I3, rz, e3, h3, d3⟩ => ?_) (hs X.env)
  have d2' : x = .ref p := d2
  subst d2'
  obtain rfl : u = Value.ref p := rx
  obtain ⟨b, rfl⟩ := nk.ref _ _ _ d3
  obtain rfl : iv = Value.ref b := rz
  obtain ⟨_, o, hp, us, rfl, hal⟩ := h3.ho.at hk
  rw [← cc.p, ← cc.w] at hp
  have hlen := hal.length
  refine n_setItem cc.rm I3 hp (hal.keys nk cc.K h3.ho.ex) ⟨nk.dep _, fun pins σ s I => nk.is key F3 H3 _ h3.ho.ex d3 X pins σ s _ cc.K I rfl⟩ (by rw [hlen, sizeLine_eq]; omega) rv fun s4 I4 => ⟨σ, _, I4, ?_⟩
  refine (hr _ rfl).run X cc W tk F3 σ _ ⟨h3.fr, h3.ho.write hk ⟨_, by rw [cc.p, cc.w], hal.put nk d3 ((f y).mono (e2.trans e3) d1)⟩⟩ D (meet.mono ((e1.trans e2).trans e3) mm)
theorem freeze_dn {F : Hp} {H : Hp} (h : HoldO F ((p, oDn G kn dk f p kvs) :: O) H) : ∃ u, H p = some u ∧ Mut (some u) ∧ ∀ od, Gw F (upd F p (.frz od u)) ∧ HoldO (upd F p (.frz od u)) O (upd H p (.frz od u)) ∧ (dDn G kn dk f kvs).ok (upd F p (.frz od u)) (.ref p) := by
  obtain ⟨o, hp, ⟨us, rfl, ha⟩, _, _⟩ := h.freeze
  refine ⟨_, hp, trivial, fun od => ?_⟩
  obtain ⟨h1, h2⟩ := gw_lock (o := hoN G.P G.w p us) h (.frz od (hoN G.P G.w p us))
  exact ⟨h2, h1, p, us, od, rfl, upd_same, ha.mono h2⟩
theorem ss_freezeN {i : Nat} (hi : Γ[i]? = some (some (dP p))) (h : SS G C ss (Γ.set i (some (dDn G kn dk f kvs))) O kk oo) : SS G C ss Γ ((p, oDn G kn dk f p kvs) :: O) kk oo := .mk fun X c W tk F σ H hh D m => by
  obtain ⟨u, hp, mu, hz⟩ := freeze_dn hh.ho
  refine wss_ghost hp mu fun od => ?_
  obtain ⟨e, h2, d2⟩ := hz od
  obtain ⟨v, hv, hd⟩ := hh.fr.2 i _ hi
  refine h.run X c W tk _ σ _ ⟨?_, h2⟩ D (meet.mono e m)
  have hd' : v = .ref p := hd
  subst hd'
  have a := (hh.fr.mono e).set i d2
  rw [slot_same hv] at a
  exact a
end
end Kn
namespace Kn
open PySem PySem.Spec PyProof.Rows L2
section
variable {X : Cx} {pins : List (Addr × Obj)} {σ : L2.St} {H : Hp} {s : Shared} {d : Addr} {o : Obj} {us : List NE}
theorem nd_frz (I : Inv X pins σ H s) (h : H d = some (.frz o (hoN X.prog X.w d us))) :
    (d == sysModules) = false ∧ s.heap.get? d = some o ∧ o.ExactDict ∧ us.length ≤ sizeLine ∧ ∃ (ea : Array DictEntry) (ep : Nat), o.data = .dict ea ep ∧ ea.size = us.length ∧
      ∀ (i : Nat) (u : NE), us[i]? = some u → ∃ en, ea[i]? = some en ∧ en.key = .ref u.2.1 ∧ RelV u.2.2 en.val := by
  obtain ⟨hd, x, _⟩ := (show ObjOk X.prog X.w H s.heap d (.frz o (hoN X.prog X.w d us)) from I.hok d _ h)
  obtain ⟨z, hm, xs, rel, o2, ea, ep, e2, hx, hdt, hen, _⟩ := x
  rw [hd] at e2
  cases e2
  have l1 := size_of_entries hen
  have l2 : us.length = xs.length := Paired.length rel
  refine ⟨hm, hd, hx, z, ea, ep, hdt, by omega, fun i u hu => ?_⟩
  obtain ⟨b, hb, e1, e2, e3⟩ := paired_get rel hu
  have q := entry_at hen i
  rw [hb] at q
  exact ⟨_, q, by show Value.ref b.2.1 = _; rw [e2], e3⟩
end
def itPN (P : Program) (w : World) (d : Addr) (o : Obj) (us : List NE) : It :=
  ⟨fun i H => H d = some (.frz o (hoN P w d us)) ∧ i < us.length, fun i H x H' => ∃ (T : Addr) (u : NE), us[i]? = some u ∧ x = .ref T ∧ H T = none ∧ H' = upd H T (.tup [.ref u.2.1, u.2.2]), fun i H => H d = some (.frz o (hoN P w d us)) ∧ us.length ≤ i⟩
section
variable {P : Program} {w : World} {K : PySem.W.Frag} {tg : Expr} {d : Addr} {o : Obj} {us : List NE} {ea : Array DictEntry} {ep : Nat}
theorem turn_pn {elts : List Expr} {kk : Nat} {tpos : Pos} (t : Addr) (hod : o.data = .dict ea ep) : Turn P w K (.Tuple elts kk tpos) (itPN P w d o us) [t] t (fun i h => ∃ a b, IsItemIter h t d i us.length ep a b) where
  mem := List.mem_singleton.mpr rfl
  obj := fun i h st b hb => by
    cases List.mem_singleton.mp hb
    obtain ⟨_, _, q1⟩ := st
    exact ⟨_, q1, fun v z => nomatch z⟩
  keep := fun i h h' st k => let ⟨a, b, q⟩ := st; ⟨a, b, k t (List.mem_singleton.mpr rfl) _ q⟩
  item := by
    intro X hP hw hK hc i pins s σ H E I hf st hg
    subst hP hw hK
    obtain ⟨c1, c2⟩ := hg
    obtain ⟨_, y1, y2, _, ea2, ep2, y3, y4, y5⟩ := nd_frz I c1
    obtain ⟨rfl, rfl⟩ := dict_ep hod y3
    have hu : us[i]? = some us[i] := List.getElem?_eq_getElem c2
    obtain ⟨en, z1, z2, z3⟩ := y5 i _ hu
    obtain ⟨a, b, st⟩ := st
    rw [← y4] at st
    have hlt : t < s.heap.objs.size := Heap.lt_size st
    have hi : i < ea2.size := by omega
    have een : ea2[i] = en := by
      rw [Array.getElem?_eq_getElem hi] at z1
      exact Option.some.inj z1
    refine wpAny_pyNext_items_item_raw st ⟨o, y1, y2, y3⟩ hi fun h' ho hT hz hk => ?_
    refine ⟨_, rfl, wpAny_letOwnedTupleGo_items (s := { s with heap := h' }) ho fun h2 st2 sb => ?_⟩
    have hT2 : h2.get? s.heap.objs.size = some { cls := .type "tuple", data := .seq #[ea2[i].key, ea2[i].val] } := (sb.2 _ (Nat.ne_of_gt hlt)).trans hT
    rw [een] at hT2
    have new : ObjOk X.prog X.w (upd H s.heap.objs.size (.tup [.ref us[i].2.1, us[i].2.2])) h2 s.heap.objs.size (.tup [.ref us[i].2.1, us[i].2.2]) :=
      ⟨by show 2 ≤ sizeLine; decide, [en.key, en.val], .cons z2 (.cons z3 .nil), ⟨_, hT2, rfl, _, rfl⟩⟩
    have J : Inv X pins σ (upd H s.heap.objs.size (.tup [.ref us[i].2.1, us[i].2.2])) { s with heap := h2 } :=
      I.turnedNew (t' := s.toks) (ch := [t]) (fun c ob q1 q2 => (sb.2 c (by simpa using q1)).trans (hk c ob (by simpa using q1) q2)) hf (Nat.le_refl _) new
    refine ⟨.ref s.heap.objs.size, _, J, rfl, ⟨_, us[i], hu, rfl, I.hok.fresh (Nat.le_refl _), rfl⟩, ⟨_, _, by rw [← y4]; exact st2⟩, fun c q => ?_⟩
    rw [List.mem_singleton.mp q, upd_ne (Nat.ne_of_lt hlt)]
    exact (hf t (List.mem_singleton.mpr rfl)).1
  done := by
    intro X hP hw hK hc i pins s σ H E I hf st hg
    subst hP hw hK
    obtain ⟨c1, c2⟩ := hg
    obtain ⟨g0, g1, g2, g3, g4, g5⟩ := hf t (List.mem_singleton.mpr rfl)
    obtain ⟨_, y1, y2, _, ea2, ep2, y3, y4, y5⟩ := nd_frz I c1
    obtain ⟨rfl, rfl⟩ := dict_ep hod y3
    obtain ⟨a, b, st⟩ := st
    rw [← y4] at st
    exact wpAny_pyNext_items_end_raw (I.ok.hd hc) st ⟨o, y1, y2, y3⟩ (by omega) fun h' eb => ⟨rfl, I.turned (t' := s.toks) (fun c ob q1 q2 => eb c ob q1 q2) g0 g1 g3 g4 g5⟩
  self := fun A i s Q E st h => let ⟨_, _, q⟩ := st; PySem.W.kcp_self q h
end
structure DLk {κ α : Type} (G : Cfg) (P0 P : Own → Prop) (d : D) (kn : κ → NestedKey) (dk : κ → D) (f : α → D) (kvs : List (κ × α)) : Prop where
  at_ : ∀ F0 v, d.ok F0 v → ∀ O0 H0, P0 O0 → HoldO F0 O0 H0 → ∃ a us od, v = .ref a ∧ ∀ F O H, P O → Gw F0 F → HoldO F O H → H a = some (.frz od (hoN G.P G.w a us)) ∧ AllN F kn dk f kvs us
def oDnL {κ α : Type} (G : Cfg) (kn : κ → NestedKey) (dk : κ → D) (f : α → D) (p : Addr) (od : Obj) (us : List NE) (kvs : List (κ × α)) : OD := ⟨fun F o => o = .frz od (hoN G.P G.w p us) ∧ AllN F kn dk f kvs us, fun e ⟨h1, h2⟩ => ⟨h1, h2.mono e⟩⟩
section
variable {G : Cfg} {C : Sc} {Γ : Fr} {O : Own} {S S1 R B : Type} {kk : Ek S1 R} {oo : Out S1 R} {e a b c it tg : Expr} {es : List Expr} {d da db : D} {ss : List Stmt} {st : Stmt} {pos p1 p2 p3 : Pos} {x : Str} {κ α : Type} {kn : κ → NestedKey} {dk : κ → D} {f : α → D} {kvs : List (κ × α)} {key : κ} {n : Nat} {p : Addr} {P P0 : Own → Prop}
theorem dl_frz : DLk G anyO anyO (dDn G kn dk f kvs) kn dk f kvs := ⟨fun F0 v hv O0 H0 _ _ => by
  obtain ⟨a, us, od, rfl, h2, h3⟩ := hv
  exact ⟨a, us, od, rfl, fun F O H _ e h => ⟨h.ex a _ (e a _ h2), h3.mono e⟩⟩⟩
theorem dl_lck {od : Obj} {us : List NE} : DLk G (fun O => O[n]? = some (p, oDnL G kn dk f p od us kvs)) (fun O => ∃ (m : Nat) (ks : List (κ × α)), O[m]? = some (p, oDnL G kn dk f p od us ks)) (dP p) kn dk f kvs := ⟨fun F0 v hv O0 H0 h0 hh0 => by
  have hv' : v = .ref p := hv
  subst hv'
  refine ⟨p, us, od, rfl, fun F O H hP e h => ?_⟩
  obtain ⟨_, _, _, _, ha⟩ := hh0.at h0
  obtain ⟨m, _, hP⟩ := hP
  obtain ⟨_, o, hp, rfl, _⟩ := h.at hP
  exact ⟨hp, ha.mono e⟩⟩
theorem ei_itemsN {elts : List Expr} {k2 : Nat} {tpos : Pos} (dl : DLk G P0 P d kn dk f kvs) (hP0 : P0 O) (hP : P O) (h : E G C a Γ O d) (hb : ∀ env, attributeBase a "items" env (eval a env) = eval a env) (hl : (p1.endLine == p2.line) = true) : EI G C (.Tuple elts k2 tpos) (.Call (.Attribute a "items" p1) [] [] p2) Γ O P (kvs.map (dT2 G.K dk f)) := .mk fun X c F σ H hh R q pins s I => by
  refine wpAny_Call_method (T := "dict") (id := "dict.items") (hb X.env) rfl hl PySem.F.plainAttrs_dict PySem.F.slot_dict_items PySem.F.type_dict_items (thn (h.go c hh I) fun u s1 ⟨v, F1, H1, I1, rv, e1, h1, d1⟩ => ?_)
  obtain ⟨a, us, od, rfl, ha⟩ := dl.at_ F1 v d1 O H1 hP0 h1.ho
  obtain rfl : u = Value.ref a := rv
  have hp1 := (ha F1 O H1 hP (Gw.refl F1) h1.ho).1
  rw [← c.p, ← c.w] at hp1
  obtain ⟨y0, y1, y2, _, ea, ep, y3, y4, y5⟩ := nd_frz I1 hp1
  have raw : s1.heap.DictRaw a ea ep := ⟨od, y1, y2, y3⟩
  refine ⟨raw.typeIs, fun b z => ?_, ?_⟩
  · cases z
    exact ⟨od, y1, y2.2.1⟩
  have I2 : Inv X pins σ H1 { s1 with heap := s1.heap.push { cls := .type "dict_items", data := .fields #[.ref a] } } := I1.kept (t' := s1.toks) fun b ob z => Heap.get?_push_of_some _ z
  have fin : wpAny (model X.prog X.w) X.A (pyIter (.ref s1.heap.objs.size)) (PIE X pins σ (.Tuple elts k2 tpos) R) X.xe { s1 with heap := s1.heap.push { cls := .type "dict_items", data := .fields #[.ref a] } } := by
    refine wpAny_pyIter_items_raw (d := a) ⟨_, Heap.get?_push_size _ rfl, rfl, rfl⟩ (raw.at fun ob z => Heap.get?_push_of_some _ z) (pi_one (tk := s1.toks) I2 _ (turn_pn (d := a) (us := us) _ y3) ⟨.none, .none, ?_⟩ ?_)
    · rw [← y4]
      exact Heap.get?_push_size _ rfl
    rw [c.p, c.w]
    refine q _ F1 H1 e1 h1 ⟨fun i d hd F O H hO e hh => ?_, fun F O H hO e hh => ?_⟩
    · obtain ⟨g1, g2⟩ := ha F O H hO e hh
      rw [List.getElem?_map] at hd
      cases hi : kvs[i]? with
      | none => rw [hi] at hd; cases hd
      | some r =>
        rw [hi] at hd
        cases hd
        obtain ⟨u, hu, k1, k2, k3⟩ := g2.get hi
        have hlt := (List.getElem?_eq_some_iff.mp hu).1
        refine ⟨⟨g1, hlt⟩, fun x H' hy => ?_⟩
        obtain ⟨T, u2, hu2, rfl, hT, rfl⟩ := hy
        rw [hu] at hu2
        cases hu2
        obtain ⟨h3, e3⟩ := hh.laid (o := .tup [.ref u.2.1, u.2.2]) hT
        exact ⟨_, e3, h3, T, _, rfl, .inl (.inl upd_same), (dk _).mono e3 k2, (f _).mono e3 k3, trivial⟩
    · obtain ⟨g1, g2⟩ := ha F O H hO e hh
      refine ⟨g1, ?_⟩
      rw [List.length_map, g2.length]
      exact Nat.le_refl _
  show wpAny _ _ (callWith p2 (.builtin "dict.items") [.ref a] [] []) _ X.xe s1
  exact method_meetsIn PySem.F.slot_dict_items PySem.F.entry_dict_items rfl (PySem.evalArgs_none ⟨rfl, raw.typeIs, PySem.F.args_dict_items_1 _, _, meets_dict_items_raw a y0, ⟨⟨ea, ep, raw⟩, fin⟩⟩)
theorem lock_own {F : Hp} {H : Hp} {od : Obj} {us : List NE} (h : HoldO F O H) (hk : O[n]? = some (p, oDn G kn dk f p kvs)) (hu : H p = some (hoN G.P G.w p us)) (ha : AllN F kn dk f kvs us) : HoldO F (O.set n (p, oDnL G kn dk f p od us kvs)) (upd H p (.frz od (hoN G.P G.w p us))) := h.write hk ⟨rfl, ha⟩
theorem set_back {O : Own} {n : Nat} {q r : Addr × OD} (h : O[n]? = some r) : (O.set n q).set n r = O := by
  rw [List.set_set]
  refine List.ext_getElem? fun i => ?_
  by_cases hi : n = i
  · subst hi
    rw [List.getElem?_set_self (List.getElem?_eq_some_iff.mp h).1, h]
  · rw [List.getElem?_set_ne hi]
theorem unlock_own {F : Hp} {H : Hp} {od : Obj} {us : List NE} (hk : O[n]? = some (p, oDn G kn dk f p kvs)) (h : HoldO F (O.set n (p, oDnL G kn dk f p od us kvs)) H) : H p = some (.frz od (hoN G.P G.w p us)) ∧ HoldO F O (upd H p (hoN G.P G.w p us)) := by
  have hk2 : (O.set n (p, oDnL G kn dk f p od us kvs))[n]? = some (p, oDnL G kn dk f p od us kvs) := List.getElem?_set_self (List.getElem?_eq_some_iff.mp hk).1
  obtain ⟨_, o, hp, rfl, ha⟩ := h.at hk2
  refine ⟨hp, ?_⟩
  have a := h.write (od' := oDn G kn dk f p kvs) hk2 ⟨us, rfl, ha⟩
  rw [set_back hk] at a
  exact a
theorem execs_one {env : Env} : execs [st] env = exec st env := by
  have e : (fun z : Flow => (match z with
    | .next => execs [] env
    | f => pure f : Sem Flow)) = pure := by
    funext z
    cases z <;> rfl
  have e2 : execs [st] env = exec st env >>= fun z : Flow => (match z with
    | .next => execs [] env
    | f => pure f : Sem Flow) := rfl
  rw [e2, e, bind_pure]
theorem ws_one {X : Cx} {D : Ends} {σ : L2.St} {H : Hp} (h : WSs X [st] D σ H) : WS X st D σ H := fun pins s I => by
  have a := h pins s I
  rw [execs_one] at a
  exact a
theorem ss_lock {S2 : Type} {s : S2} {g : S2 → B} (ι : B → Out S1 R) (Γ1 : S2 → Fr) (O1 : S2 → Own) (kvs1 : S2 → List (κ × α)) (hk : O[n]? = some (p, oDn G kn dk f p kvs)) (hk1 : ∀ y, (O1 y)[n]? = some (p, oDn G kn dk f p (kvs1 y)))
    (h1 : ∀ od us, SS G C [st] Γ (O.set n (p, oDnL G kn dk f p od us kvs)) (kk.to fun y => SD.of (Γ1 y) ((O1 y).set n (p, oDnL G kn dk f p od us (kvs1 y)))) (.nx s)) (hr : ∀ y, y = s → SS G C ss (Γ1 y) (O1 y) kk (ι (g y))) : SS G C (st :: ss) Γ O kk (ι (lt s g)) :=
  ss_cons (t := fun X => tLock (WS X st)) (fun X c => ps_lock ps_can) fun X c W tk F σ H hh D m => by
    obtain ⟨_, o, hp, us, rfl, ha⟩ := hh.ho.at hk
    refine ⟨p, _, hp, trivial, fun od => ws_one ?_⟩
    refine (h1 od us).run X c W tk F σ _ ⟨hh.fr, lock_own hh.ho hk hp ha⟩ _ ?_
    intro σ1 H1 ⟨F1, e1, h2⟩
    obtain ⟨g1, g2⟩ := unlock_own (hk1 s) h2.ho
    exact ⟨g1, (hr s rfl).run X c W tk F1 σ1 _ ⟨h2.fr, g2⟩ D (meet.mono e1 m)⟩
theorem k_lenN [DecidableEq κ] (nk : NKey G.K kn dk) (dt : DAt G O d kn dk f kvs) (hz : kvs.length < 16000000) : CalR G C (.builtin "len") O [d] (dI kvs.length) := ⟨fun X c => ⟨fun vs H Q => (∃ (a : Addr) (us : List NE), vs = [.ref a] ∧ NDic X H a us ∧ us.length = kvs.length) ∧ Q (.int kvs.length) H,
  fun pins s σ H vs us Q I r h => by
    obtain ⟨⟨a, ns, rfl, hr, hl⟩, hq⟩ := h
    rw [Vals.ref1 r]
    obtain ⟨z, hd, xs, rel, dd⟩ := hr.of I
    have l2 : ns.length = xs.length := Paired.length rel
    exact call_len_dictH hd dd (by omega) ⟨.int kvs.length, H, I.tok _, ⟨_, by rw [← l2, hl]⟩, hq⟩,
  fun F H vs hh h Q q => by
    obtain ⟨v, rfl, hv⟩ := all1 h
    obtain ⟨a, us, rfl, hr, hal⟩ := dt.at_ F H v hh hv
    rw [← c.p, ← c.w] at hr
    exact ⟨⟨a, us, rfl, ⟨hr, hal.keys nk c.K hh.ex⟩, hal.length⟩, q F H _ (Gw.refl F) hh rfl⟩⟩⟩
end
end Kn
namespace Kn
open PySem PySem.Spec PySem.W PyProof.Rows L2
section
variable {G : Cfg} {C : Sc} {Γ : Fr} {O : Own} {S S1 R B : Type} {kk : Ek S1 R} {oo : Out S1 R} {e a b c it tg : Expr} {es : List Expr} {d da db : D} {ss : List Stmt} {st : Stmt} {pos p1 p2 p3 : Pos} {x : Str} {κ α : Type} {kn : κ → NestedKey} {dk : κ → D} {f : α → D} {kvs : List (κ × α)} {key : κ} {n : Nat} {p : Addr}
end
end Kn
namespace Kn
open PySem PySem.Spec PyProof.Rows L2
section
variable {P : Program} {w : World} {A : Around} {E : Value → Shared → Prop} {s : Shared}
end
section
variable {G : Cfg} {C : Sc} {Γ : Fr} {O : Own} {a b c e : Expr} {p1 p2 p3 pos : Pos} {S1 R B : Type} {kk : Ek S1 R} {oo : Out S1 R} {ss : List Stmt} {κ α : Type} {kn : κ → NestedKey} {dk : κ → D} {f : α → D} {kvs : List (κ × α)} {key : κ} {n : Nat} {p : Addr}
end
end Kn
namespace Kn
open PySem PySem.Spec PySem.W L2
section
variable {G : Cfg} {x m q : Str} {st : Stmt} {N ps : List Str} {k : Nat} {S : SpecD}
end
theorem rk_dropN {od : OD} {c : Addr × OD} {O : Own} {F : Hp} {v : V} {H : Hp} (h : (RK.new od (c :: O)).ok F v H) : (RK.new od O).ok F v H := by
  obtain ⟨F', p, e, hv, h2⟩ := h
  exact ⟨F', p, e, hv, (h2.perm (List.Perm.swap c (p, od) O)).drop⟩
abbrev TelV := Int × Str × Str
inductive Lw where
  | saw (i : Int)
  | heard (t : TelV) (s : Str × Int)
deriving Inhabited
def Lw.kd : Lw → Str
  | .saw _ => "saw"
  | .heard _ _ => "heard"
def Lw.no : Lw → Int
  | .saw i => i
  | .heard _ _ => 0
def Lw.ds (K : PySem.W.Frag) : Lw → List D
  | .saw i => [dS "saw", dI i]
  | .heard t s => [dS "heard", dT3 K dI dS dS t, dT2 K dS dI s]
section
variable {G : Cfg} {C : Sc} {Γ : Fr} {O : Own} {a : Expr} {pos p1 : Pos} {n : Nat} {w : Lw}
end
section
variable {G : Cfg} {C : Sc} {O : Own} {α : Type} [DecidableEq α] {f : α → D} {p : α → PyData} {n : Nat} {a b : α}
end
section
variable {G : Cfg} {C : Sc} {Γ : Fr} {O : Own} {S1 R B : Type} {kk : Ek S1 R} {oo : Out S1 R} {e a b c : Expr} {d : D} {ss ta tb : List Stmt} {pos p1 : Pos} {i n : Nat} {p : Addr} {od : OD} {ks : List Str} {key : Str}
end
theorem putIf_len {κ α : Type} [DecidableEq κ] {c : Prop} [Decidable c] {kvs : List (κ × α)} {k : κ} {v : α} : (if c then dPut kvs k v else kvs).length ≤ kvs.length + 1 := by
  split
  · exact dPut_len
  · exact Nat.le_succ _
end Kn
namespace Kn
open PySem PySem.Spec L2
section
variable {G : Cfg} {C : Sc} {Γ : Fr} {O : Own} {x : Va} {xs : List Str}
end
end Kn
namespace Kn
open PySem PySem.Spec PySem.Calls PySem.W PyProof.Rows L2
section
variable {G : Cfg} {C : Sc} {Γ : Fr} {O : Own} {S1 S2 R B : Type} {kk : Ek S1 R} {c : Expr} {ss body : List Stmt} {pos : Pos}
end
section
variable {G : Cfg} {C : Sc} {Γ : Fr} {O : Own} {S1 R B : Type} {kk : Ek S1 R} {e : Expr} {ss : List Stmt} {pos p1 : Pos} {x : Str} {α : Type} {i : Nat}
end
section
variable {G : Cfg} {C : Sc} {Γ : Fr} {O : Own} {a : Expr} {p1 p2 p3 pos : Pos}
end
section
variable {G : Cfg} {C : Sc} {O : Own}
end
end Kn
namespace Kn
open PySem PySem.Spec L2
section
variable {G : Cfg} {C : Sc} {Γ : Fr} {O : Own} {e a b : Expr} {es : List Expr} {ks : List Str} {p : Addr} {p1 p2 pos : Pos} {x : Str} {k : Nat}
end
section
variable {G : Cfg} {C : Sc} {O : Own}
end
end Kn
namespace Kn
open PySem PySem.Spec L2
instance : DecidableEq (List (Str × Int × List Str) × List (Int × Str × Str × Str) × List Sy) := @instDecidableEqProd _ _ inferInstance (@instDecidableEqProd _ _ inferInstance inferInstance)
instance : Inhabited BookV := ⟨⟨[], [], [], []⟩⟩
section
variable {G : Cfg} {C : Sc} {Γ : Fr} {O : Own} {S1 S2 R B : Type} {kk : Ek S1 R} {c : Expr} {ss body : List Stmt} {pos : Pos}
end
structure T1 (G : Cfg) (C : Sc) (e : Expr) (Γ : Fr) (O O1 : Own) (b : Bool) : Prop where
  run : ∀ X, InC G C X → ∀ (F : Hp) (σ : L2.St) (H : Hp), Hold F Γ O σ H → ∀ Q : Bool → Hp → Prop, (∀ F' H', Gw F F' → Hold F' Γ O1 σ H' → Q b H') → WT X e σ H Q
section
variable {G : Cfg} {C : Sc} {Γ : Fr} {O O1 : Own} {S1 R B : Type} {kk : Ek S1 R} {e a c o : Expr} {es : List Expr} {ss ta : List Stmt} {pos p1 p2 : Pos} {k : Bool} {α : Type} [Inhabited α] {f : α → D} {n j : Nat} {p : Addr} {x m : Str} {ns : List Str} {fs ds : List D} {S : SpecD} {xd : Xd}
theorem AN.bt {T : (Own → List D → Prop) → Prop} (h : AN G C es Γ O T) (pos : Pos) (env : Env) : (backTo pos (starEach es env)).any (·.1) = false := by
  unfold backTo
  rw [List.any_map]
  exact h.st env
end
end Kn
namespace Kn
open PySem PySem.Spec L2
section
variable {G : Cfg} {C : Sc} {Γ : Fr} {O O2 : Own} {S1 R B : Type} {kk : Ek S1 R} {oo : Out S1 R} {e a b : Expr} {ss : List Stmt} {pos p1 p2 : Pos} {k : Bool} {op : CmpOp} {n : Nat} {p : Addr} {ds : List D} {d : D}
end
instance : DecidableEq ((List (Str × Option Int) × Stl) × Option (Option Int × List Str)) := @instDecidableEqProd _ _ inferInstance inferInstance
abbrev Tl := (List (Str × Option Int) × Stl) × Option (Option Int × List Str)
def Tl.ds (K : PySem.W.Frag) (t : Tl) : List D := [dLo K (dT2 K dS (dO dI)) t.1.1, dStl K t.1.2] ++ (match t.2 with
  | none => []
  | some x => [dLst K [dO dI x.1, dLo K dS x.2]])
end Kn
namespace Kn
open PySem PySem.Spec L2 PyProof.Rows
section
variable {X : Cx} {e : Expr} {es : List Expr} {ta : TA} {y : Str} {p1 p2 pos : Pos} {Cy : Addr} {mc : Value} {pl : Sem Bool}
end
section
variable {G : Cfg} {C : Sc} {Γ : Fr} {O : Own} {S1 R : Type} {kk : Ek S1 R} {e : Expr} {d : D} {ss : List Stmt} {pos p1 p3 : Pos} {x q y f a : Str} {st : Stmt} {k : Nat}
end
end Kn
namespace Kn
open PySem PySem.Spec L2 PyProof.Rows
section
variable {X : Cx} {CX : CXT} {k : Nat} {f C : Addr} {fd : FuncData} {ps : List Str} {sp : Sp} {E : L2.St → XK} {x m : Str} {p pos apos : Pos} {e o : Expr} {es : List Expr} {ta : TE} {t : TA}
end
section
variable {G : Cfg} {C : Sc} {Γ : Fr} {O : Own} {S1 R : Type} {kk : Ek S1 R} {e o : Expr} {es : List Expr} {d : D} {ds fs : List D} {ss : List Stmt} {pos p1 p2 : Pos} {x m : Str} {k n : Nat} {p : Addr} {ns : List Str} {xd : Xd} {S : SpecD} {b : Bool}
end
section
variable {K : PySem.W.Frag} {P : Program} {w : World} {mg : Str → Option Value} {base h : Heap} {x y f q : Str} {st : Stmt} {fa : List He.Fa} {fn : List He.DefD} {i : Nat}
end
end Kn
namespace Kn
open PySem PySem.Spec L2 PyProof.Rows
section
variable {G : Cfg} {C : Sc} {Γ : Fr} {O : Own} {a b : Expr} {pos : Pos} {xs : List Va} {m : Int} {x q : Str} {st : Stmt} {N ps : List Str} {k : Nat} {S : SpecD}
end
end Kn
namespace Kn
open PySem PySem.Spec L2
section
variable {G : Cfg} {C : Sc} {Γ : Fr} {O O1 : Own} {S1 R B : Type} {kk : Ek S1 R} {e a b : Expr} {es : List Expr} {d db : D} {ss : List Stmt} {pos : Pos} {k k' : Bool} {op : CmpOp} {f1 : Addr → Own}
end
end Kn
namespace Kn
open PySem PySem.Spec L2
instance : DecidableEq ((List Str) × (List (Str × Int × (List Str))) × (List (Int × Str × Str × Str)) × (List Sy) × (List (Int × Str × Str))) := fun a b =>
  haveI : DecidableEq (List Str) := inferInstance
  haveI : DecidableEq (List (Str × Int × (List Str))) := inferInstance
  haveI : DecidableEq (List (Int × Str × Str × Str)) := inferInstance
  haveI : DecidableEq (List Sy) := inferInstance
  haveI : DecidableEq (List (Int × Str × Str)) := inferInstance
  haveI : DecidableEq ((List Sy) × (List (Int × Str × Str))) := instDecidableEqProd
  haveI : DecidableEq ((List (Int × Str × Str × Str)) × (List Sy) × (List (Int × Str × Str))) := instDecidableEqProd
  haveI : DecidableEq ((List (Str × Int × (List Str))) × (List (Int × Str × Str × Str)) × (List Sy) × (List (Int × Str × Str))) := instDecidableEqProd
  (instDecidableEqProd : DecidableEq ((List Str) × (List (Str × Int × (List Str))) × (List (Int × Str × Str × Str)) × (List Sy) × (List (Int × Str × Str)))) a b
def idxS (xs : List Str) (x : Str) : Int := ((xs.idxOf x : Nat) : Int)
theorem idx_le {z : Str} : ∀ {l : List Str} {m : Nat}, l[m]? = some z → l.idxOf z ≤ m
  | [], _, h => nomatch h
  | y :: l, 0, h => by
    have e : y = z := Option.some.inj h
    rw [List.idxOf_cons, e, beq_self_eq_true]
    exact Nat.le_refl _
  | y :: l, m + 1, h => by
    rw [List.idxOf_cons]
    have := idx_le (l := l) (show l[m]? = some z from h)
    cases y == z
    · show l.idxOf z + 1 ≤ m + 1; omega
    · exact Nat.zero_le _
section
variable {G : Cfg} {C : Sc} {Γ Γ' : Fr} {O : Own} {S1 R B : Type} {kk : Ek S1 R} {oo : Out S1 R} {e a b c : Expr} {es : List Expr} {d d' : D} {ds ds' : List D} {ss body : List Stmt} {pos p1 p2 p3 : Pos} {x : Str} {α : Type} {f : α → D} {n m i k : Nat} {p q : Addr} {od : OD}
end
end Kn
namespace Kn
open PySem PySem.Spec PyProof.Rows L2
def RK.sum {ε α : Type} (G : Cfg) (fx : ε → Xd) (fd : α → D) (O : Own) : Except ε α → RK
  | .ok a => RK.val (fd a) O
  | .error e => RK.exc G (fx e) O
def ls {ε α β : Type} (o : Except ε α) (g : ε → β) (f : α → β) : β := match o with
  | .ok a => f a
  | .error e => g e
section
variable {G : Cfg} {C : Sc} {Γ Γ1 : Fr} {O O1 : Own} {S S1 S2 R R2 B : Type} {kk : Ek S1 R} {oo : Out S1 R} {e a b c : Expr} {es : List Expr} {d d' : D} {ds ds' : List D} {ss suite body : List Stmt} {h₀ : ExceptHandler} {hds : List ExceptHandler} {pos pos' np p1 p2 p3 : Pos} {x y n m : Str} {i j k : Nat} {xd : Xd} {α ε : Type} {f : α → D}
end
end Kn
namespace Kn
open PySem PySem.Spec PyProof.Rows L2
section
variable {G : Cfg} {C : Sc} {Γ : Fr} {O : Own} {P : Own → Prop} {S S1 R B A : Type} {k : Ek S R} {o : Out S R} {it tg a b c : Expr} {ds : List D} {ss body ta tb : List Stmt} {pos p1 p2 : Pos} {α : Type} {f : α → D} {is : List Nat} {n : Nat} {p : Addr}
end
section
variable {G : Cfg} {C : Sc} {Γ : Fr} {O : Own} {a b : Expr} {pos : Pos}
end
end Kn
namespace Kn
open PySem PySem.Spec PyProof.Rows L2
section
variable {G : Cfg} {C : Sc} {Γ : Fr} {O : Own} {a b : Expr} {pos p1 : Pos}
theorem eqV_str {x y : Str} : eqV (.str x) (.str y) = decide (x = y) := by
  by_cases h : x = y
  · subst h; rw [decide_eq_true rfl]; simp [eqV]
  · rw [decide_eq_false h]; simp [eqV, h]
theorem e_lidx {l : List Str} {z : Str} (ha : E G C a Γ O (dLst G.K (l.map dS))) (hb : E G C b Γ O (dS z)) (hm : z ∈ l) (hba : ∀ env, attributeBase a "index" env (eval a env) = eval a env) (hl : (p1.endLine == pos.line) = true) (hs : ∀ env, starEach [b] env = (false, eval b env) :: starEach [] env) : E G C (.Call (.Attribute a "index" p1) [b] [] pos) Γ O (dI (idxS l z)) := .mk fun X c F σ H hh Q q => by
  refine we_of (pe_bm PySem.F.plainAttrs_list PySem.F.slot_list_index PySem.F.type_list_index mt_index pe_can (pa_cons pe_can pa_nil (hs X.env)) (hba X.env) (by rw [hs]; rfl) hl (hs X.env) rfl) (ha.run X c F σ H hh _ fun F1 H1 v e1 h1 d1 => ?_)
  obtain ⟨p, us, rfl, hq, hal⟩ := d1
  refine ⟨.inl ⟨rfl, us, by rw [c.K]; exact (hq.mono h1.ho.ex).sq⟩, hb.run X c F1 σ H1 h1 _ fun F2 H2 w e2 h2 d2 => ?_⟩
  have d2' : w = .str z := d2.1
  subst d2'
  obtain ⟨hu, _⟩ := hal.dS
  have hi := List.idxOf_lt_length_of_mem hm
  subst hu
  refine ⟨p, l.map V.str, .str z, l.idxOf z, .str z, rfl, rfl, by rw [c.K]; exact (hq.mono (e2.trans h2.ho.ex)).sq, rfl, ?_, ?_, ?_, fun m z' hm2 h2' => ?_, q F2 H2 _ (e1.trans e2) h2 rfl⟩
  · rw [List.all_eq_true]
    intro v hv
    obtain ⟨s, _, rfl⟩ := List.mem_map.mp hv
    rfl
  · rw [List.getElem?_map, List.getElem?_eq_getElem hi, List.getElem_idxOf]
    rfl
  · rw [eqV_str, decide_eq_true rfl]
  · rw [List.getElem?_map] at h2'
    cases hg : l[m]? with
    | none => rw [hg] at h2'; cases h2'
    | some y =>
      rw [hg] at h2'
      have ez : V.str y = z' := Option.some.inj h2'
      rw [← ez, eqV_str]
      refine decide_eq_false fun e => ?_
      subst e
      have := idx_le hg
      omega
end
end Kn
namespace Kn
open PySem PySem.Spec L2 PyProof.Rows
section
variable {X : Cx}
end
section
variable {G : Cfg} {C : Sc} {Γ : Fr} {O : Own} {x : Va} {xs : List Str}
end
end Kn
namespace Kn
open PySem PySem.Spec L2 PyProof.Rows
section
variable {G : Cfg} {C : Sc} {Γ : Fr} {O : Own} {a b : Expr} {pos : Pos} {α : Type} {f : α → D}
end
end Kn
namespace Kn
open PySem PySem.Spec PyProof.Rows L2
section
variable {G : Cfg} {C : Sc} {Γ Γ1 : Fr} {O O1 : Own} {S S1 S2 R R2 B : Type} {kk : Ek S1 R} {oo : Out S1 R} {e a b c : Expr} {es : List Expr} {d d' : D} {ds ds' : List D} {ss suite body : List Stmt} {h₀ : ExceptHandler} {hds : List ExceptHandler} {pos pos' np p1 p2 p3 : Pos} {x y n m : Str} {i j k : Nat} {xd : Xd} {α ε : Type} {f : α → D}
end
theorem HoldO.swap {F : Hp} {O : Own} {H : Hp} {x y : Addr × OD} (h : HoldO F (x :: y :: O) H) : HoldO F (y :: x :: O) H := by
  refine ⟨h.ex, ?_, fun q hq => h.ow q ?_⟩
  · have n1 := h.nd
    simp only [List.map_cons, List.nodup_cons, List.mem_cons, not_or] at n1 ⊢
    exact ⟨⟨fun z => n1.1.1 z.symm, n1.2.1⟩, n1.1.2, n1.2.2⟩
  · rcases List.mem_cons.mp hq with rfl | hq
    · exact List.mem_cons_of_mem _ List.mem_cons_self
    · rcases List.mem_cons.mp hq with rfl | hq
      · exact List.mem_cons_self
      · exact List.mem_cons_of_mem _ (List.mem_cons_of_mem _ hq)
section
variable {G : Cfg} {C : Sc} {Γ : Fr} {O : Own} {pos : Pos}
end
section
variable {G : Cfg} {C : Sc} {Γ : Fr} {O : Own} {a b : Expr} {pos : Pos} {α : Type} {f : α → D}
end
end Kn
namespace Kn
open PySem PySem.Spec PyProof.Rows L2
section
variable {G : Cfg} {C : Sc} {O : Own}
end
end Kn
namespace Kn
open PySem PySem.Spec PyProof.Rows L2
section
variable {G : Cfg} {C : Sc} {Γ Γ' : Fr} {O O' O1 : Own} {S1 S2 R B : Type} {kk : Ek S1 R} {oo : Out S1 R} {it e a : Expr} {es : List Expr} {d : D} {ds ds' : List D} {ss body : List Stmt} {pos p1 p2 p3 p4 p5 : Pos} {x : Str} {n k j : Nat} {p : Addr}
end
end Kn
namespace Kn
open PySem PySem.Spec PyProof.Rows L2 LamX
section
variable {prog : Program} {w : World} {A : Around} {s : Shared}
theorem lam_second {f c' p : Addr} {q a : Str} {params : Arguments} {scope : Scope} {pm ctv : Value} {its : Array Value} {k : Int} {t : Tok} {p1 p2 p3 : Pos} {j : Nat}
    (hroom : A.depth < recursionLimit) (nl : s.heap.NoLimit)
    (hf : s.heap.get? f = some (PySem.W.kla_obj "<lambda>" q params (.Subscript (.Name a p1) (.Constant (.int 1) j p2) p3) scope [] pm c' ctv))
    (hcd : s.heap.CodeRec (.ref c') q)
    (hb : ∀ v, bindArgs (PySem.W.kla_fn "<lambda>" q params (.Subscript (.Name a p1) (.Constant (.int 1) j p2) p3) scope [] pm (.ref c') ctv) ⟨[v], []⟩ = pure [(a, v)])
    (hk : scope.kind = .function) (hco : scope.isCoroutine = false) (hgen : scope.isGenerator = false) (hcell : ∀ x ∈ scope.names, x.2 ≠ .cell) (hloc : scope.names.lookup a = some .local) (hd : (a == ("__debug__" : Str)) = false)
    (ht : IsTup s.heap p its) (hx : its[1]? = some (.int k t)) :
    wpAny (model prog w) A (call (.ref f) [.ref p]) (PySem.W.KeyPure (.int k) s) (fun _ _ => False) s := by
  refine wpAny_call (PySem.W.kla_callFunE hroom hf rfl hco hgen rfl hcd ?_)
  rw [hb]
  refine wpAny_pure (wpAny_newFunctionEnv hcell (fun y hy => by
    rw [List.mem_singleton.mp hy]
    exact hloc) (fun h₁ hns hsb => ⟨nl.fresh _ hsb, ?_⟩) hk)
  have kp : ∀ b o, s.heap.get? b = some o → h₁.get? b = some o := fun b o e => hsb.extBut b o (Nat.ne_of_lt (Heap.lt_size e)) (Heap.get?_push_of_some _ e)
  have hsz : 1 < its.size := (Array.getElem?_eq_some_iff.mp hx).1
  refine PySem.W.kla_codeExpr (wpAny_Subscript_Constant_late (wpAny_Name (wpAny_loadName_local hk (by exact hloc) hns (v := .ref p) (by simp [List.lookup]) ?_) hd))
  refine wpAny_Constant_int ⟨"tuple", _, slot_tuple_getitem.lookup, (ht.keeps kp).typeIs, getItem_tuple (ht.keeps kp) (by omega) (by omega) (j := 1) ?_ hx ?_⟩
  · unfold seqIndex?
    show (if (decide ((0 : Int) ≤ 1) && decide ((1 : Int) < (its.size : Int))) = true then some (1 : Int).toNat else none) = some 1
    rw [decide_eq_true (show (0 : Int) ≤ 1 by decide), decide_eq_true (show (1 : Int) < (its.size : Int) by omega)]
    rfl
  · exact ⟨h₁, _, rfl, kp, .int k t⟩
end
theorem each_vals {xs : List V} {us : List Value} (r : Vals xs us) : PySem.W.EachIs (fun (v : Value) (x : V) => RelV x v) us xs := by
  induction r with
  | nil => exact .nil
  | cons h _ ih => exact .cons h ih
theorem vals_each {xs : List V} {us : List Value} (r : PySem.W.EachIs (fun (v : Value) (x : V) => RelV x v) us xs) : Vals xs us := by
  induction r with
  | nil => exact .nil
  | cons h _ ih => exact .cons h ih
section
variable {X : Cx} {pins : List (Addr × Obj)} {σ : L2.St} {H : Hp} {s : Shared} {Q : VK}
theorem sort_second {l f c' : Addr} {q a : Str} {params : Arguments} {scope : Scope} {pm ctv : Value} {p1 p2 p3 : Pos} {j : Nat} {xs : List V} {key : V → Int} (I : Inv X pins σ H s) (hs : SqL X.K H l xs)
    (hx : ∀ x ∈ xs, ∃ t us, x = V.ref t ∧ SqT X.K H t us ∧ us[1]? = some (V.int (key x))) (hu : X.A.units + 100 < cLine) (hroom : X.A.in1.in1.depth < recursionLimit)
    (hf : s.heap.get? f = some (PySem.W.kla_obj "<lambda>" q params (.Subscript (.Name a p1) (.Constant (.int 1) j p2) p3) scope [] pm c' ctv))
    (hcd : s.heap.CodeRec (.ref c') q)
    (hb : ∀ (pm ctv v : Value), bindArgs (PySem.W.kla_fn "<lambda>" q params (.Subscript (.Name a p1) (.Constant (.int 1) j p2) p3) scope [] pm (.ref c') ctv) ⟨[v], []⟩ = pure [(a, v)])
    (hk : scope.kind = .function) (hco : scope.isCoroutine = false) (hgen : scope.isGenerator = false) (hcell : ∀ x ∈ scope.names, x.2 ≠ .cell) (hloc : scope.names.lookup a = some .local) (hd : (a == ("__debug__" : Str)) = false)
    (hq : ∀ p, H p = none → Q (.ref p) (upd H p (.lst (xs.mergeSort fun a b => decide (key a ≤ key b))))) :
    wpAny (model X.prog X.w) X.A (call (.builtin "sorted") [.ref l] [(Str.ofString "key", .ref f)]) (EP X pins σ Q) X.xe s := by
  obtain ⟨its, rv, hl, hz⟩ := I.list hs
  refine PySem.W.sorted_key_data (b := false) (fun x : V => PyData.int (key x)) hl.isList (each_vals rv) (PySem.W.AllAlike.of fun _ _ => by simp [PySem.W.alike]) (PySem.W.Sortable.others fun _ => ⟨(fun z => nomatch z), (fun _ z => nomatch z)⟩) hz (fun x _ => ?_) (PyProof.Rows.ksk_s1 _ _) (fun _ => PyProof.Rows.ksk_l1 _ _) (fun _ => PyProof.Rows.ksk_t1 _ _)
    (fun v x hR hm h tk kp => ?_) fun out c h' tk kp hfr hD hlen eo => ?_
  · have : (PyData.int (key x)).depth = 0 := by simp [PyData.depth]
    omega
  · obtain ⟨t, us, rfl, hT, hk1⟩ := hx x hm
    obtain rfl : v = Value.ref t := hR
    obtain ⟨its2, rv2, ht, _⟩ := I.tuple hT
    obtain ⟨u, hu2, ru⟩ := rv2.get hk1
    obtain ⟨tk2, rfl⟩ := ru
    exact lam_second (s := { s with heap := h, toks := tk }) hroom (I.nolimit.keeps kp) (kp _ _ hf) (hcd.keeps kp) (hb pm ctv) hk hco hgen hcell hloc hd (ht.keeps kp) (by rw [List.getElem?_toArray]; exact hu2)
  · rw [PySem.W.dataLe_int] at eo
    have rv' := vals_each eo
    refine ⟨.ref _, upd H (s.heap.objs.size + 1) (.lst (xs.mergeSort fun a b => decide (key a ≤ key b))), I.laid (t' := tk) kp (Nat.le_succ _) ⟨?_, out, c, rv', hD⟩, rfl, hq _ (I.hok.fresh (Nat.le_succ _))⟩
    rw [List.length_mergeSort]
    exact hz
end
section
variable {X : Cx} {pins : List (Addr × Obj)} {σ : L2.St} {H : Hp} {s : Shared}
def MadeL (H H1 : Hp) (P c' : Addr) (q : Str) (ps : Array Value) : Prop :=
  (H1 = H ∧ ∃ pos, codeAmong pos ps.toList = some (.ref c')) ∨
  (∃ more : Array Value, H c' = none ∧ H1 = upd (upd H P (.tbl (ps ++ more))) c' (CodeO c' q) ∧ TriplesOk (ps ++ more).toList ∧ ∀ p' cv, codeAmong p' (ps ++ more).toList = some cv → codeAmong p' ps.toList = some cv ∨ cv = .ref c')
theorem lam_make3 {c P : Addr} {ps : Array Value} {params : Arguments} {body : Expr} {scope : Scope} {pos : Pos} {E : Value → Shared → Prop} {Q : Value → Shared → Prop} (I : Inv X pins σ H s) (TB : TabB X.base X.mg c P) (hcode : X.env.code = .ref c)
    (hP : H P = some (.tbl ps)) (ht : TriplesOk ps.toList) (ha : ∀ (pos : Pos) (cv : Value), codeAmong pos ps.toList = some cv → ∃ c, cv = .ref c ∧ H c = some (CodeO c (X.env.qual ++ "<lambda>"))) (hdef : defaultsOf params X.env = ([], [])) (hfree : ∀ y ∈ scope.names, y.2 = .free → ∃ c, X.env.cells.lookup y.1 = some c)
    (h : ∀ (f c' : Addr) (pm ctv : Value) (H1 : Hp) (s' : Shared), Inv X pins σ H1 s' → MadeL H H1 P c' (X.env.qual ++ "<lambda>") ps →
      s'.heap.get? f = some (PySem.W.kla_obj "<lambda>" (X.env.qual ++ "<lambda>") params body scope (cloFrom X.env.cells scope.names []) pm c' ctv) → H1 c' = some (CodeO c' (X.env.qual ++ "<lambda>")) → Q (.ref f) s') :
    wpAny (model X.prog X.w) X.A (eval (.Lambda params body scope pos) X.env) Q E s := by
  refine PySem.W.kla_eval hdef ?_
  have bP : s.heap.BuiltinsAt X.mg P := TB.bm.keeps I.bk
  have hP' : s.heap.get? P = some { cls := .none, data := .fields ps } := I.hok P _ hP
  cases hc : codeAmong pos ps.toList with
  | none =>
    refine PySem.W.kla_makeFunction (mg := X.mg) (c := c) (P := P) (ps := ps) (closure_ok hfree) I.ok.glob (I.mod.glob.keeps I.bk) hcode (TB.code.keeps I.bk) hP' ht hc TB.gP bP fun c' ctv h' tk hx hge hlt hrec htb => ?_
    obtain ⟨c2, oc, vs, t, e2, hoc, hd, hv⟩ := hrec
    cases e2
    have nC : H c' = none := I.hok.fresh hge
    have I1 := inv_table (t' := tk) (more := #[rawInt pos.line, rawInt pos.col, .ref c']) (h' := h'.push (PySem.W.kla_obj "<lambda>" (X.env.qual ++ "<lambda>") params body scope (cloFrom X.env.cells scope.names []) ((X.mg "__name__").getD .none) c' ctv)) I hP
      (fun b o hb e => Heap.get?_push_of_some _ (hx b o hb e)) (Heap.get?_push_of_some _ htb) hge ⟨oc, vs, t, Heap.get?_push_of_some _ hoc, hd, hv⟩
    have eL : (ps ++ #[rawInt pos.line, rawInt pos.col, .ref c']).toList = ps.toList ++ [rawInt pos.line, rawInt pos.col, .ref c'] := by simp
    refine h h'.objs.size c' ((X.mg "__name__").getD .none) ctv _ _ I1 (.inr ⟨_, nC, rfl, by rw [eL]; exact PySem.TriplesOk_snoc _ _ _ _ ht, fun p' cv hcv => ?_⟩) (Heap.get?_push_size _ rfl) upd_same
    rw [eL] at hcv
    exact among_app _ ht hcv
  | some cv =>
    obtain ⟨c', e, hco⟩ := ha pos cv hc
    subst e
    refine PySem.W.kla_makeFunctionHit (mg := X.mg) (c := c) (P := P) (ps := ps) (closure_ok hfree) I.ok.glob (I.mod.glob.keeps I.bk) hcode (TB.code.keeps I.bk) hP' ht hc bP fun ctv h' tk hx hsz => ?_
    have I1 : Inv X pins σ H { s with heap := h'.push (PySem.W.kla_obj "<lambda>" (X.env.qual ++ "<lambda>") params body scope (cloFrom X.env.cells scope.names []) ((X.mg "__name__").getD .none) c' ctv), toks := tk } := I.kept fun b o e => Heap.get?_push_of_some _ (hx b o e)
    exact h h'.objs.size c' ((X.mg "__name__").getD .none) ctv H _ I1 (.inl ⟨rfl, pos, hc⟩) (Heap.get?_push_size _ rfl) hco
end
theorem clo_nil {cells : List (Str × Addr)} : ∀ {names : List (Str × NameKind)}, (∀ y ∈ names, y.2 ≠ .free) → cloFrom cells names [] = [] := by
  intro names
  induction names with
  | nil => intro _; rfl
  | cons y ys ih =>
    intro h
    obtain ⟨n, k⟩ := y
    have hk := h (n, k) List.mem_cons_self
    have := ih fun z hz => h z (List.mem_cons_of_mem _ hz)
    cases k <;> first | exact this | exact absurd rfl hk
def oTab (q : Str) : OD := ⟨fun F o => ∃ ps : Array Value, o = .tbl ps ∧ TriplesOk ps.toList ∧ ∀ (pos : Pos) (cv : Value), codeAmong pos ps.toList = some cv → ∃ c, cv = .ref c ∧ F c = some (CodeO c q), fun e ⟨ps, h1, h2, h3⟩ => ⟨ps, h1, h2, fun pos cv hc => by
  obtain ⟨c, e1, e2⟩ := h3 pos cv hc
  exact ⟨c, e1, e _ _ e2⟩⟩⟩
theorem madeL_hold {F H H1 : Hp} {O : Own} {P c' : Addr} {q : Str} {n : Nat} {ps : Array Value} (h : HoldO F O H) (hk : O[n]? = some (P, oTab q)) (hP : H P = some (.tbl ps)) (m : MadeL H H1 P c' q ps) : ∃ F1, Gw F F1 ∧ HoldO F1 O H1 := by
  rcases m with ⟨rfl, _⟩ | ⟨more, hc, rfl, ht, ha⟩
  · exact ⟨F, Gw.refl F, h⟩
  · obtain ⟨h2, e2⟩ := h.laid (o := CodeO c' q) hc
    obtain ⟨fP, o, hPo, ps0, e0, ht0, ha0⟩ := h.at hk
    rw [hP] at hPo
    cases hPo
    cases e0
    have hw := h2.write (k := n) (od := oTab q) (od' := oTab q) (o' := .tbl (ps ++ more)) hk ⟨_, rfl, ht, fun pos cv hcv => by
      rcases ha pos cv hcv with z | z
      · obtain ⟨c0, e1, e3⟩ := ha0 pos cv z
        exact ⟨c0, e1, e2 _ _ e3⟩
      · exact ⟨c', z, upd_same⟩⟩
    have hO : O.set n (P, oTab q) = O := by
      refine List.ext_getElem? fun i => ?_
      by_cases hi : n = i
      · subst hi
        rw [List.getElem?_set_self (List.getElem?_eq_some_iff.mp hk).1, hk]
      · rw [List.getElem?_set_ne hi]
    rw [hO] at hw
    have hne : P ≠ c' := fun z => by rw [z, hc] at hP; cases hP
    have hu : upd (upd H c' (CodeO c' q)) P (.tbl (ps ++ more)) = upd (upd H P (.tbl (ps ++ more))) c' (CodeO c' q) := by
      funext b
      unfold upd
      by_cases h1 : b = P
      · subst h1
        rw [if_pos rfl, if_neg hne, if_pos rfl]
      · by_cases h2 : b = c'
        · subst h2
          rw [if_neg h1, if_pos rfl, if_pos rfl]
        · rw [if_neg h1, if_neg h2, if_neg h2, if_neg h1]
    rw [hu] at hw
    exact ⟨_, e2, hw⟩
theorem allD_pairs {F : Hp} {α : Type} {f : α → D} : ∀ {bs : List (V × α)}, (∀ b ∈ bs, (f b.2).ok F b.1) → AllD F (bs.map fun b => f b.2) (bs.map fun b => b.1)
  | [], _ => trivial
  | b :: bs, h => ⟨h b List.mem_cons_self, allD_pairs fun c hc => h c (List.mem_cons_of_mem _ hc)⟩
theorem pairs_allD {F : Hp} {α : Type} {f : α → D} : ∀ {xs : List α} {vs : List V}, AllD F (xs.map f) vs → (∀ b ∈ vs.zip xs, (f b.2).ok F b.1) ∧ (vs.zip xs).map (fun b => b.1) = vs ∧ (vs.zip xs).map (fun b => b.2) = xs
  | [], [], _ => ⟨(fun _ h => nomatch h), rfl, rfl⟩
  | [], _ :: _, h => h.elim
  | _ :: _, [], h => h.elim
  | x :: xs, v :: vs, h => by
    obtain ⟨h1, h2, h3⟩ := pairs_allD (xs := xs) (vs := vs) h.2
    refine ⟨fun b hb => ?_, ?_, ?_⟩
    · rw [List.zip_cons_cons] at hb
      rcases List.mem_cons.mp hb with rfl | hb
      · exact h.1
      · exact h1 b hb
    · rw [List.zip_cons_cons, List.map_cons, h2]
    · rw [List.zip_cons_cons, List.map_cons, h3]
theorem sorted_pairs {F : Hp} {α : Type} {f : α → D} {key : α → Int} {kv : V → Int} {xs : List α} {vs : List V} (h : AllD F (xs.map f) vs) (hk : ∀ b ∈ vs.zip xs, kv b.1 = key b.2) : AllD F ((xs.mergeSort fun a b => decide (key a ≤ key b)).map f) (vs.mergeSort fun a b => decide (kv a ≤ kv b)) := by
  obtain ⟨h1, h2, h3⟩ := pairs_allD h
  have e1 := List.map_mergeSort (r := fun a b : V × α => decide (key a.2 ≤ key b.2)) (s := fun a b : V => decide (kv a ≤ kv b)) (f := fun b : V × α => b.1) (l := vs.zip xs) (fun a ha b hb => by rw [hk a ha, hk b hb])
  have e2 := List.map_mergeSort (r := fun a b : V × α => decide (key a.2 ≤ key b.2)) (s := fun a b : α => decide (key a ≤ key b)) (f := fun b : V × α => b.2) (l := vs.zip xs) (fun a ha b hb => rfl)
  rw [h2] at e1
  rw [h3] at e2
  rw [← e1, ← e2, List.map_map]
  exact allD_pairs fun b hb => h1 b ((List.mergeSort_perm _ _).mem_iff.mp hb)
section
variable {G : Cfg} {C : Sc} {Γ : Fr} {O : Own} {a : Expr} {α : Type} {f : α → D} {xs : List α} {key : α → Int} {p1 p2 p3 p4 p5 p6 pos : Pos} {n j : Nat} {c P : Addr} {q0 y : Str} {params : Arguments} {scope : Scope}
structure LamK (y : Str) (params : Arguments) (body : Expr) (scope : Scope) : Prop where
  kind : scope.kind = .function
  co : scope.isCoroutine = false
  gen : scope.isGenerator = false
  own : ∀ z ∈ scope.names, z.2 ≠ .cell ∧ z.2 ≠ .free
  loc : scope.names.lookup y = some .local
  dbg : (y == ("__debug__" : Str)) = false
  def_ : ∀ env, defaultsOf params env = ([], [])
  bind : ∀ (q : Str) (pm cv ctv v : Value), bindArgs (PySem.W.kla_fn "<lambda>" q params body scope [] pm cv ctv) ⟨[v], []⟩ = pure [(y, v)]
theorem we_sortL [Calm C] (g : Glo C "sorted") (hm : G.mg "sorted" = none) (ha : E G C a Γ O (dLst G.K (xs.map f))) (hkey : ∀ F v x, (f x).ok F v → ∃ t us, v = V.ref t ∧ SqT G.K F t us ∧ us[1]? = some (V.int (key x)))
    (hk : O[n]? = some (P, oTab (q0 ++ "<lambda>"))) (TB : TabB G.base G.mg c P) (L : LamK y params (.Subscript (.Name y p2) (.Constant (.int 1) j p3) p4) scope) (hs : ∀ env, starEach [a] env = (false, eval a env) :: starEach [] env) :
    ∀ X, InC G C X → X.env.qual = q0 → X.env.code = .ref c → ∀ (F : Hp) (σ : L2.St) (H : Hp), Hold F Γ O σ H → ∀ Q : VK, (∀ F' H' p, Gw F F' → Hold F' Γ ((p, oLst ((xs.mergeSort fun a b => decide (key a ≤ key b)).map f)) :: O) σ H' → Q (.ref p) H') →
      WE X (.Call (.Name "sorted" p1) [a] [⟨some "key", .Lambda params (.Subscript (.Name y p2) (.Constant (.int 1) j p3) p4) scope p5, p6⟩] pos) σ H Q := by
  intro X cc hq0 hcode F σ H hh Q q pins s I
  refine wpAny_Call_Name_kw (ld_blt I (cc.gl g) (by rw [cc.mg]; exact hm) bt_sorted ?_)
  refine PyProof.Rows.callWith_kw (thn ((pa_cons pe_can pa_nil (hs X.env) : PA X [a] (tCons (WE X a) tNil)).run pos pins s σ H (fun vs H1 => ∃ F1 l us, vs = [V.ref l] ∧ Gw F F1 ∧ Hold F1 Γ O σ H1 ∧ LsA G.K F1 l us ∧ AllD F1 (xs.map f) us) I (ha.run X cc F σ H hh _ fun F1 H1 v e1 h1 ⟨l, us, ev, hl, hal⟩ => ⟨F1, l, us, by rw [ev], e1, h1, hl, hal⟩)) fun us0 s1 ⟨vs, H1, I1, r1, F1, l, us, hvs, e1, h1, hl, hal⟩ => ?_) (by rw [hs]; rfl) (by rw [hs]; rfl)
  subst hvs
  obtain rfl := Vals.ref1 r1
  show wpAny _ _ (evalAll ((do let v ← eval (.Lambda params (.Subscript (.Name y p2) (.Constant (.int 1) j p3) p4) scope p5) X.env; standAt pos; pure v) :: [])) _ _ s1
  obtain ⟨_, o, hP, ps, rfl, ht, hta⟩ := h1.ho.at hk
  subst hq0
  refine wpAny_evalAll_cons (wpAny_bind (lam_make3 I1 (by rw [cc.base, cc.mg]; exact TB) hcode hP ht (fun pos cv hc => by
    obtain ⟨c0, z1, z2⟩ := hta pos cv hc
    exact ⟨c0, z1, h1.ho.ex _ _ z2⟩) (L.def_ _) (fun z hz e => absurd e (L.own z hz).2) fun fa c' pm ctv H2 s2 I2 m2 hf hco => wpAny_bind (wpAny_standAt (wpAny_pure (wpAny_evalAll_nil ?_)))))
  rw [clo_nil fun z hz => (L.own z hz).2] at hf
  obtain ⟨F2, e2, h2⟩ := madeL_hold h1.ho hk hP m2
  have hal2 := AllD.mono e2 hal
  have hl2 : SqL X.K H2 l us := by rw [cc.K]; exact (hl.mono (e2.trans h2.ex)).sq
  classical
  let kv : V → Int := fun v => if hv : ∃ k : Int, ∃ t ws, v = V.ref t ∧ SqT G.K H2 t ws ∧ ws[1]? = some (V.int k) then hv.choose else 0
  have hkv : ∀ (v : V) (t : Addr) (ws : List V) (k : Int), v = V.ref t → SqT G.K H2 t ws → ws[1]? = some (V.int k) → kv v = k := fun v t ws k z1 z2 z3 => by
    have hv : ∃ k : Int, ∃ t ws, v = V.ref t ∧ SqT G.K H2 t ws ∧ ws[1]? = some (V.int k) := ⟨k, t, ws, z1, z2, z3⟩
    have e : kv v = hv.choose := dif_pos hv
    rw [e]
    obtain ⟨t', ws', y1, y2, y3⟩ := hv.choose_spec
    rw [z1] at y1
    cases y1
    have ew := I2.tuple_inj (by rw [cc.K]; exact z2) (by rw [cc.K]; exact y2)
    rw [ew, y3] at z3
    exact (V.int.inj (Option.some.inj z3))
  obtain ⟨pr1, pr2, pr3⟩ := pairs_allD hal2
  have hpair : ∀ b ∈ us.zip xs, kv b.1 = key b.2 := fun b hb => by
    obtain ⟨t, ws, z1, z2, z3⟩ := hkey F2 b.1 b.2 (pr1 b hb)
    exact hkv b.1 t ws _ z1 (gw_t h2.ex z2) z3
  have hx : ∀ v ∈ us, ∃ t ws, v = V.ref t ∧ SqT X.K H2 t ws ∧ ws[1]? = some (V.int (kv v)) := fun v hv => by
    rw [← pr2] at hv
    obtain ⟨b, hb, rfl⟩ := List.mem_map.mp hv
    obtain ⟨t, ws, z1, z2, z3⟩ := hkey F2 b.1 b.2 (pr1 b hb)
    exact ⟨t, ws, z1, by rw [cc.K]; exact gw_t h2.ex z2, by rw [hpair b hb]; exact z3⟩
  have hcr : s2.heap.CodeRec (.ref c') (X.env.qual ++ "<lambda>") := NdefX.codeO_at I2.hok hco
  have un := cc.un
  have dp := cc.dp
  refine sort_second I2 hl2 hx (by omega) (by show X.A.depth < recursionLimit; omega) hf hcr (fun pm ctv v => L.bind _ _ _ _ _) L.kind L.co L.gen (fun z hz => (L.own z hz).1) L.loc L.dbg fun p hp => ?_
  exact q F2 _ p (e1.trans e2) ⟨h1.fr.mono e2, h2.own hp ⟨_, rfl, sorted_pairs hal2 hpair⟩⟩
end
end Kn
namespace Kn
open PySem PySem.Spec PyProof.Rows L2 LamX
structure SSq (G : Cfg) (C : Sc) (q0 : Str) (c0 : Addr) (ss : List Stmt) (Γ : Fr) (O : Own) {S R : Type} (k : Ek S R) (o : Out S R) : Prop where
  run : ∀ X, InC G C X → X.env.qual = q0 → X.env.code = .ref c0 → ∀ W, Takes X W → ∀ (F : Hp) (σ : L2.St) (H : Hp), Hold F Γ O σ H → ∀ D, meet k F D W o → WSs X ss D σ H
section
variable {G : Cfg} {C : Sc} {Γ Γ' : Fr} {O O' : Own} {S S1 R B α : Type} {k : Ek S R} {o : Out S R} {e c it tg : Expr} {d : D} {ds : List D} {ss body : List Stmt} {st : Stmt} {pos p1 p2 : Pos} {x : Str} {es : List Expr} {P : Own → Prop} {is : List Nat} {q0 : Str} {c0 : Addr}
theorem ssq_cons {t : Cx → TS} (hp : ∀ X, InC G C X → PS X st (t X)) (h : ∀ X, InC G C X → X.env.qual = q0 → X.env.code = .ref c0 → ∀ W, Takes X W → ∀ (F : Hp) (σ : L2.St) (H : Hp), Hold F Γ O σ H → ∀ D, meet k F D W o → t X { D with nx := WSs X ss D } σ H) : SSq G C q0 c0 (st :: ss) Γ O k o := .mk fun X c hq hc W tk F σ H hh D m =>
  wss_of (pss_cons (hp X c) pss_can) (h X c hq hc W tk F σ H hh D m)
theorem ssq_asg {f : α → D} {a : α} {i : Nat} (ι : B → Out S R) {g : α → B} (l : Loca C i x) (hs : ∀ env, swapsWith e (some (.Name x p1)) pos.line env = pure false) (h : E G C e Γ O (f a)) (hr : ∀ y, y = a → SSq G C q0 c0 ss (Γ.set i (some (f y))) O k (ι (g y))) : SSq G C q0 c0 (.Assign [.Name x p1] e pos :: ss) Γ O k (ι (lt a g)) :=
  ssq_cons (t := fun X => tAsg (WE X e) (gName i)) (fun X c => ps_set (by rw [c.n]; exact l.nd) (by rw [c.n]; exact l.n) (by rw [c.sc]; exact l.l) pe_can (hs X.env) (by rcases l.f with h | h; exact .inl (c.fn h x); exact .inr (by rw [c.sc]; exact h)))
    fun X c hq hc W tk F σ H hh D m => h.run X c F σ H hh _ fun F1 H1 v e1 h1 d1 => (hr a rfl).run X c hq hc W tk F1 _ H1 (h1.set i d1) D (meet.mono e1 m)
theorem ssq_asgT {i : Nat} {T : (Own → D → Prop) → Prop} (l : Loca C i x) (hs : ∀ env, swapsWith e (some (.Name x p1)) pos.line env = pure false) (h : ET G C e Γ O T) (hr : T fun O' d => SSq G C q0 c0 ss (Γ.set i (some d)) O' k o) : SSq G C q0 c0 (.Assign [.Name x p1] e pos :: ss) Γ O k o :=
  ssq_cons (t := fun X => tAsg (WE X e) (gName i)) (fun X c => ps_set (by rw [c.n]; exact l.nd) (by rw [c.n]; exact l.n) (by rw [c.sc]; exact l.l) pe_can (hs X.env) (by rcases l.f with h | h; exact .inl (c.fn h x); exact .inr (by rw [c.sc]; exact h)))
    fun X c hq hc W tk F σ H hh D m => h.run X c F σ H hh _ hr _ fun F1 H1 v O' d r e1 h1 d1 => r.run X c hq hc W tk F1 _ H1 (Hold.set i h1 d1) D (meet.mono e1 m)
theorem ssq_for [Calm C] {q0 : Str} {c0 : Addr} {df : α → D} {xs : List α} {f : S1 → α → Out S1 R} {s0 : S1} {g : S1 → Out S R} (Γ1 : S1 → Fr) (Γ2 : S1 → α → Fr) (O1 : S1 → Own) (hi : ∀ X, InC G C X → X.env.qual = q0 → X.env.code = .ref c0 → ∀ (F : Hp) (σ : L2.St) (H : Hp), Hold F Γ O σ H → ∀ R : It → Hp → Prop, (∀ J F' H', Gw F F' → Hold F' Γ O σ H' → Feeds P J F' (xs.map df) → R J H') → WI X tg it σ H R) (l0 : FrLe Γ (Γ1 s0)) (o0 : O = O1 s0) (hP : ∀ s, P (O1 s))
    (hg : ∀ s x, TJ G C tg (df x) (Γ1 s) (Γ2 s x) is)
    (hb : ∀ s x pre post, xs = pre ++ x :: post → forL f pre s0 = .nx s → SS G C body (Γ2 s x) (O1 s) (k.to fun s => SD.of (Γ1 s) (O1 s)) (f s x))
    (hr : ∀ s, forL f xs s0 = .nx s → SS G C ss (Γ1 s) (O1 s) k (g s)) (hs : ∀ env x, foldedSetIterable it env x = pure x) : SSq G C q0 c0 (.For tg it body [] pos :: ss) Γ O k ((forL f xs s0).bind g) :=
  ssq_cons (t := fun X => tFor (WI X tg it) (WG X tg) (WSs X body)) (fun X c => ps_for c.po c.cm pi_can pg_can pss_can (hs X.env)) fun X c hq hc W tk F σ H hh D m => by
    refine hi X c hq hc F σ H hh _ fun J F1 H1 e1 h1 fd => ?_
    refine ⟨fun i mm σ' H' => ∃ s F', mm = xs.length - i ∧ i ≤ xs.length ∧ forL f (xs.take i) s0 = .nx s ∧ Gw F1 F' ∧ Hold F' (Γ1 s) (O1 s) σ' H', ⟨xs.length, s0, F1, rfl, Nat.zero_le _, rfl, Gw.refl _, h1.fr.le l0, o0 ▸ h1.ho⟩, ?_⟩
    rintro i mm σ' H' ⟨s, F', rfl, hil, hf, e2, h2⟩
    by_cases hlt : i < xs.length
    · refine .inr ⟨?_, ?_⟩
      · have hd : (xs.map df)[i]? = some (df xs[i]) := by rw [List.getElem?_map, List.getElem?_eq_getElem hlt]; rfl
        exact (fd.item i _ hd F' (O1 s) H' (hP s) e2 h2.ho).1
      · have hd : (xs.map df)[i]? = some (df xs[i]) := by rw [List.getElem?_map, List.getElem?_eq_getElem hlt]; rfl
        have hsplit : xs = xs.take i ++ xs[i] :: xs.drop (i + 1) := by
          have a := List.take_append_drop i xs
          rw [List.drop_eq_getElem_cons hlt] at a
          exact a.symm
        refine ⟨fun σ3 H3 => ∃ s3 F3, f s xs[i] = .nx s3 ∧ Gw F1 F3 ∧ Hold F3 (Γ1 s3) (O1 s3) σ3 H3, ?_, fun x H3 hy => ?_⟩
        · rintro σ3 H3 ⟨s3, F3, e3, x3, h3⟩
          refine ⟨xs.length - (i + 1), by omega, s3, F3, rfl, hlt, ?_, x3, h3⟩
          have a : xs.take (i + 1) = xs.take i ++ xs[i] :: [] := List.take_succ_eq_append_getElem hlt
          rw [a, forL_snoc hf, e3]
          rfl
        · obtain ⟨F3, e3, h3, d3⟩ := (fd.item i _ hd F' (O1 s) H' (hP s) e2 h2.ho).2 x H3 hy
          refine (hg s xs[i]).run X c F3 (O1 s) σ' H3 x ⟨h2.fr.mono e3, h3⟩ d3 _ fun σ4 h4 _ => ?_
          refine (hb s xs[i] (xs.take i) (xs.drop (i + 1)) hsplit hf).run X c W tk F3 σ4 H3 h4 _ ?_
          have me : forL f xs s0 = (match f s xs[i] with
            | .nx s' => forL f (xs.drop (i + 1)) s'
            | .rt r => .rt r
            | .ex e => .ex e) := by
            have a := forL_snoc (f := f) (x := xs[i]) (post := xs.drop (i + 1)) hf
            rw [← hsplit] at a
            exact a
          have m1 := meet.mono ((e1.trans e2).trans e3) m
          rw [me] at m1
          cases ef : f s xs[i] with
          | nx s' =>
            intro σ5 H5 q
            obtain ⟨F5, e5, h5⟩ := q
            exact ⟨s', F5, rfl, (e2.trans e3).trans e5, h5⟩
          | rt r =>
            rw [ef] at m1
            exact m1
          | ex r =>
            rw [ef] at m1
            exact m1
    · have hi' : i = xs.length := by omega
      subst hi'
      refine .inl ⟨?_, ?_⟩
      · have a := fd.stop F' (O1 s) H' (hP s) e2 h2.ho
        rw [List.length_map] at a
        exact a
      · rw [List.take_length] at hf
        refine (hr s hf).run X c W tk F' σ' H' h2 D ?_
        have m1 := meet.mono (e1.trans e2) m
        rw [hf] at m1
        exact m1
theorem ssq_fold [Calm C] {df : α → D} {xs : List α} {f : S1 → α → S1} {s0 : S1} {g : S1 → B} (ι : B → Out S R) (Γ1 : S1 → Fr) (Γ2 : S1 → α → Fr) (O1 : S1 → Own) (hi : ∀ X, InC G C X → X.env.qual = q0 → X.env.code = .ref c0 → ∀ (F : Hp) (σ : L2.St) (H : Hp), Hold F Γ O σ H → ∀ R : It → Hp → Prop, (∀ J F' H', Gw F F' → Hold F' Γ O σ H' → Feeds P J F' (xs.map df) → R J H') → WI X tg it σ H R) (l0 : FrLe Γ (Γ1 s0)) (o0 : O = O1 s0) (hP : ∀ s, P (O1 s))
    (hg : ∀ s x, TJ G C tg (df x) (Γ1 s) (Γ2 s x) is)
    (hb : ∀ s x pre post, xs = pre ++ x :: post → s = pre.foldl f s0 → SS G C body (Γ2 s x) (O1 s) (k.to fun s => SD.of (Γ1 s) (O1 s)) (.nx (f s x)))
    (hr : ∀ s, s = xs.foldl f s0 → SS G C ss (Γ1 s) (O1 s) k (ι (g s))) (hs : ∀ env x, foldedSetIterable it env x = pure x) : SSq G C q0 c0 (.For tg it body [] pos :: ss) Γ O k (ι (lt (xs.foldl f s0) g)) := by
  have a := ssq_for (ss := ss) (pos := pos) (k := k) (g := fun s => ι (g s)) (f := fun s x => .nx (f s x)) Γ1 Γ2 O1 hi l0 o0 hP hg (fun s x pre post e h => hb s x pre post e (by rw [forL_fold] at h; cases h; rfl)) (fun s h => hr s (by rw [forL_fold] at h; cases h; rfl)) hs
  rw [forL_fold] at a
  exact a
theorem ei_sortL [Calm C] {f : α → D} {xs : List α} {key : α → Int} {a : Expr} {p3 p4 p5 p6 : Pos} {n j : Nat} {Pt : Addr} {y : Str} {params : Arguments} {scope : Scope} (g : Glo C "sorted") (hm : G.mg "sorted" = none) (ha : E G C a Γ O (dLst G.K (xs.map f))) (hkey : ∀ F v x, (f x).ok F v → ∃ t us, v = V.ref t ∧ SqT G.K F t us ∧ us[1]? = some (V.int (key x)))
    (hk : O[n]? = some (Pt, oTab (q0 ++ "<lambda>"))) (TB : TabB G.base G.mg c0 Pt) (L : LamK y params (.Subscript (.Name y p2) (.Constant (.int 1) j p3) p4) scope) (hs : ∀ env, starEach [a] env = (false, eval a env) :: starEach [] env) :
    ∀ X, InC G C X → X.env.qual = q0 → X.env.code = .ref c0 → ∀ (F : Hp) (σ : L2.St) (H : Hp), Hold F Γ O σ H → ∀ R : It → Hp → Prop, (∀ J F' H', Gw F F' → Hold F' Γ O σ H' → Feeds anyO J F' ((xs.mergeSort fun a b => decide (key a ≤ key b)).map f) → R J H') →
      WI X tg (.Call (.Name "sorted" p1) [a] [⟨some "key", .Lambda params (.Subscript (.Name y p2) (.Constant (.int 1) j p3) p4) scope p5, p6⟩] pos) σ H R := by
  intro X c hq hc F σ H hh R q
  refine wi_of (pi_list pe_can) (we_sortL g hm ha hkey hk TB L hs X c hq hc F σ H hh _ fun F1 H1 p e1 h1 => ?_)
  obtain ⟨F2, e2, h2, d1⟩ := freeze_lst (G := G) h1.ho
  obtain ⟨a, vs, ea, hs, ha⟩ := d1
  cases ea
  have hs' : ∀ {F' O' H'}, Gw F2 F' → HoldO F' O' H' → SqL X.K H' p vs := fun e h => by rw [c.K]; exact gw_l (e.trans h.ex) hs.sq
  refine ⟨p, rfl, ⟨vs, hs' (Gw.refl _) h2⟩, q _ F2 H1 (e1.trans e2) ⟨h1.fr.mono e2, h2⟩ ⟨fun i d hd F O H _ e h => ?_, fun F O H _ e h => ?_⟩⟩
  · obtain ⟨v, hv, dv⟩ := AllD.get ha hd
    refine ⟨⟨vs, v, hs' e h, hv⟩, fun x H' hy => ?_⟩
    obtain ⟨rfl, hx⟩ := hy
    have z := hx vs (hs' e h)
    rw [hv] at z
    cases z
    exact ⟨F, Gw.refl F, h, d.mono e dv⟩
  · exact ⟨vs, hs' e h, by rw [AllD.length ha]; exact Nat.le_refl _⟩
end
structure CodeA (G : Cfg) (x : Str) (c P : Addr) : Prop where
  cd : ∀ (f : Addr) (o : Obj) (fd : FuncData), G.mg x = some (.ref f) → G.K.lookup f = some o → o.data = .func fd → fd.code = .ref c
  tb : TabB G.base G.mg c P
def LamOk (G : Cfg) (x : Str) (O : Own) : Prop := ∃ (n : Nat) (c P : Addr), O[n]? = some (P, oTab (x ++ ".<locals>." ++ "<lambda>")) ∧ CodeA G x c P
theorem lam_ok {G : Cfg} {x : Str} {O : Own} {q : Addr × OD} (h : LamOk G x O) : LamOk G x (q :: O) := by
  obtain ⟨n, c, P, h1, h2⟩ := h
  exact ⟨n + 1, c, P, h1, h2⟩
theorem Def.calleeQ {G : Cfg} {x : Str} {st : Stmt} (dd : Def G x st) {N ps : List Str} {k : Nat} {S : SpecD} (sc : FnScope N ps (defScope st)) (len : ∀ ds O rk, S ds O rk → ds.length = ps.length)
    (hbind : ∀ (kV doc pm : Value) (an : Option Addr) (cdv ct : Value) (us : List Value), us.length = ps.length → bindArgs (PySem.W.fnOf x x (defArgs st) (defBody st) (defScope st) .none kV doc pm an cdv ct) ⟨us, []⟩ = pure (ps.zip us))
    (hb : ∀ ds O rk, S ds O rk → ∃ (S1 R : Type) (ek : Ek S1 R) (r : R) (c0 : Addr), (∃ P, CodeA G x c0 P) ∧ SSq G ⟨k, N, defScope st, true, true⟩ (x ++ ".<locals>.") c0 (defBody st) (frame0 N ds) O ek (.rt r) ∧ ek.rs r = rk) : Callee G (k + 1) x S := by
  obtain ⟨f, fd, F, g⟩ := dd.ex
  have fok : FnOk G.P G.w G.K G.mg G.base (CX G.P G.w) (k + 1) f fd ps (spD S) := by
    obtain ⟨oc, od, dV, kV, doc, pm, an, cdv, ct, osl, rfl, lk, hcd, _, _⟩ := F.ex
    obtain ⟨P, w, K, mg, base⟩ := G
    refine fn_of lk hcd sc (fun vs H Q E h => ?_) (fun A outer s H vs Q E hr h => ?_)
    · obtain ⟨ds, O, rk, F0, hS, hO, ha, _⟩ := h
      rw [AllD.length ha]
      exact len ds O rk hS
    · obtain ⟨ds, O, rk, F0, hS, hO, ha, hq, hx⟩ := h
      obtain ⟨S1, R, ek, r, c0, ⟨Pt, hca⟩, hss, hrk⟩ := hb ds O rk hS
      have ecd : cdv = .ref c0 := hca.cd f _ _ g lk rfl
      refine ⟨_, pss_can, hss.run _ (inC_of hr) rfl ecd _ (takes_of rfl rfl rfl rfl) F0 _ H ⟨frame_start ha, hO⟩ _ ⟨fun v H' hv => ?_, fun c d σ H' hv => ?_⟩⟩
      · rw [hrk] at hv
        exact hq v H' hv
      · rw [hrk] at hv
        exact hx c d H' hv
  exact callee_of fok g F.kp (F.bindsN hbind)
end Kn
namespace Kn
open PySem PySem.Spec PyProof.Rows L2
section
variable {X : Cx} {A : Around} {E : Value → Shared → Prop} {pins : List (Addr × Obj)} {σ : L2.St} {H : Hp} {s : Shared} {a b : Addr} {us : List NE} {k : NestedKey}
theorem n_setdef {v : V} {r : Value} {Q : Value → Shared → Prop} (hu : A.units + 60 < cLine) (I : Inv X pins σ H s) (hm : H a = some (hoN X.prog X.w a us)) (g : ∀ u ∈ us, NK X H u.1 u.2.1) (hk : NK X H k b) (hl : us.length < sizeLine) (rv : RelV v r)
    (h1 : ∀ w u s', valN us k = some w → RelV w u → Inv X pins σ H s' → Q u s') (h2 : valN us k = none → ∀ s', Inv X pins σ (upd H a (hoN X.prog X.w a (putN us k b v))) s' → Q r s') : wpAny (model X.prog X.w) A (call (.builtin "dict.setdefault") [.ref a, .ref b, r]) Q E s := by
  obtain ⟨z, hd, xs, rel, dd⟩ := NDic.of I (us := us) ⟨.inl hm, g⟩
  have hz : xs.length ≤ sizeLine := by rw [← Paired.length rel]; exact z
  have hf := entN_find rel k
  refine call_setdefault_heap (hsz := hz) (roomN1 hu) (hk.is I) hd dd (fun p hp => ?_) (fun hn h' dd' hs => ?_)
  · rw [hp] at hf
    cases hv : valN us k with
    | none => rw [hv] at hf; exact hf.elim
    | some w =>
      rw [hv] at hf
      exact h1 w _ _ hv hf (I.tok _)
  · rw [hn] at hf
    refine h2 (by
      cases hv : valN us k with
      | none => rfl
      | some w => rw [hv] at hf; exact hf.elim) _ ?_
    obtain ⟨q, es, ep, hq, h2, h3, h4, _, h5⟩ := dd'
    refine d_write I (by rw [hm]; exact True.intro) hs ⟨q, hq⟩ (hoN_ok ⟨?_, hd, _, entN_put rel k b rv, q, es, ep, hq, h2, h3, h4, h5⟩)
    have := putN_len (us := us) (k := k) (b := b) (v := v)
    omega
end
def dSetd {κ α : Type} [DecidableEq κ] (kvs : List (κ × α)) (k : κ) (y : α) : List (κ × α) := if dHas kvs k then kvs else kvs ++ [(k, y)]
section
variable {κ α : Type} [DecidableEq κ] {G : Cfg} {C : Sc} {Γ : Fr} {O : Own} {kn : κ → NestedKey} {dk : κ → D} {f : α → D} {kvs : List (κ × α)} {a b c : Expr} {key : κ} {n : Nat} {p : Addr} {p1 pos : Pos}
theorem own_same {O : Own} {n : Nat} {q : Addr × OD} (h : O[n]? = some q) : O.set n q = O := by
  refine List.ext_getElem? fun i => ?_
  by_cases hi : n = i
  · subst hi
    rw [List.getElem?_set_self (List.getElem?_eq_some_iff.mp h).1, h]
  · rw [List.getElem?_set_ne hi]
theorem set_at {O : Own} {n : Nat} {q r : Addr × OD} (h : O[n]? = some r) : (O.set n q)[n]? = some q := List.getElem?_set_self (List.getElem?_eq_some_iff.mp h).1
theorem et_setdefN {y : α} (nk : NKey G.K kn dk) (hk : O[n]? = some (p, oDn G kn dk f p kvs)) (ha : E G C a Γ O (dP p)) (hb : E G C b Γ O (dk key)) (hc : E G C c Γ O (f y)) (hz : kvs.length < 16000000) (m : ∀ X, M2 X a "setdefault" p1 b c pos) :
    ET G C (.Call (.Attribute a "setdefault" p1) [b, c] [] pos) Γ O (fun R => R (O.set n (p, oDn G kn dk f p (dSetd kvs key y))) (f ((dFind kvs key).getD y))) := .mk fun X cc F σ H h0 R t Q q pins s I => by
  refine wpAny_Call_method (m X).base (m X).few (m X).line PySem.F.plainAttrs_dict PySem.F.slot_dict_setdefault PySem.F.type_dict_setdefault (thn (ha.go cc h0 I) fun u s1 ⟨v, F1, H1, I1, rv, e1, h1, d1⟩ => ?_)
  have d1' : v = .ref p := d1
  subst d1'
  obtain rfl : u = Value.ref p := rv
  obtain ⟨_, o1, hp1, us1, rfl, hal1⟩ := h1.ho.at hk
  rw [← cc.p, ← cc.w] at hp1
  refine ⟨n_typeIs I1 (.inl hp1), n_noDict I1 (.inl hp1), ?_⟩
  rw [(m X).trees]
  refine Calls.callWith_builtin rfl (Calls.evalArgs_plain (Calls.spliced_cons (thn (hb.go cc h1 I1) fun iv s2 ⟨y2, F2, H2, I2, ry, e2, h2, d2⟩ => Calls.spliced_cons (thn (hc.go cc h2 I2) fun zv s3 ⟨z, F3, H3, I3, rz, e3, h3, d3⟩ => Calls.spliced_nil ?_))))
  have d2' := (dk key).mono e3 d2
  obtain ⟨b2, rfl⟩ := nk.ref _ _ _ d2
  obtain rfl : iv = Value.ref b2 := ry
  obtain ⟨_, o3, hp3, us, rfl, hal⟩ := h3.ho.at hk
  rw [← cc.p, ← cc.w] at hp3
  have hlen := hal.length
  refine n_setdef cc.rm I3 hp3 (hal.keys nk cc.K h3.ho.ex) ⟨nk.dep _, fun pins σ s I => nk.is key F3 H3 _ h3.ho.ex d2' X pins σ s _ cc.K I rfl⟩ (by rw [hlen, sizeLine_eq]; omega) rz (fun w u s4 hw rw' I4 => ?_) (fun hn s4 I4 => ?_)
  · have hh : dHas kvs key = true := by rw [← hal.has nk (k := key), hw]; rfl
    have hO : O.set n (p, oDn G kn dk f p (dSetd kvs key y)) = O := by
      have e : dSetd kvs key y = kvs := if_pos hh
      rw [e]
      exact own_same hk
    refine ⟨_, H3, I4, rw', q F3 H3 _ _ _ t ((e1.trans e2).trans e3) (by rw [hO]; exact h3) ?_⟩
    cases hz : dFind kvs key with
    | none => rw [(hal.find nk (k := key)).2 hz] at hw; cases hw
    | some t =>
      obtain ⟨w2, hw2, dw⟩ := (hal.find nk (k := key)).1 t hz
      rw [hw] at hw2
      cases hw2
      exact dw
  · have hh : dHas kvs key = false := by rw [← hal.has nk (k := key), hn]; rfl
    have e : dSetd kvs key y = dPut kvs key y := by
      unfold dSetd dPut
      rw [hh]
      rfl
    have hf : dFind kvs key = none := by
      cases hz : dFind kvs key with
      | none => rfl
      | some t =>
        obtain ⟨w2, hw2, dw⟩ := (hal.find nk (k := key)).1 t hz
        rw [hn] at hw2
        cases hw2
    refine ⟨z, _, I4, rz, q F3 _ _ _ _ t ((e1.trans e2).trans e3) ⟨h3.fr, ?_⟩ (by rw [hf]; exact d3)⟩
    rw [e]
    exact h3.ho.write hk ⟨_, by rw [cc.p, cc.w], hal.put nk d2' d3⟩
end
end Kn
namespace Kn
open PySem PySem.Spec PyProof.Rows L2
theorem own_up {O : Own} {n : Nat} {q r : Addr × OD} (h : O[n]? = some r) : (q :: O)[n + 1]? = some r := h
theorem key_T3 {K : PySem.W.Frag} {α γ : Type} {fa : α → D} {fc : γ → D} : ∀ F v (x : α × Int × γ), (dT3 K fa dI fc x).ok F v → ∃ t us, v = V.ref t ∧ SqT K F t us ∧ us[1]? = some (V.int x.2.1) := by
  rintro F v x ⟨a, vs, rfl, hs, ha⟩
  refine ⟨a, vs, rfl, hs, ?_⟩
  match vs, ha with
  | u0 :: u1 :: us, ha =>
    have h1 : u1 = V.int x.2.1 := ha.2.1
    rw [h1]
    rfl
section
variable {G : Cfg} {C : Sc} {O : Own} {d : D} {κ α : Type} {kn : κ → NestedKey} {dk : κ → D} {f : α → D} {kvs : List (κ × α)}
end
end Kn
namespace Kn
open PySem PySem.Spec PyProof.Rows L2
theorem alike_strs : ∀ (xs ys : List Str), PySem.W.alikeAll (xs.map PyData.str) (ys.map PyData.str) = true
  | [], _ => by simp [PySem.W.alikeAll]
  | _ :: _, [] => by simp [PySem.W.alikeAll]
  | x :: xs, y :: ys => by simp [PySem.W.alikeAll, PySem.W.alike, alike_strs xs ys]
theorem loop_keepM {S α R : Type} {P : S → Prop} {f : S → α → Ret S R} : ∀ {xs : List α} {s0 s : S}, loopL f xs s0 = .nx s → (∀ s x s', x ∈ xs → P s → f s x = .nx s' → P s') → P s0 → P s
  | [], s0, s, e, _, p => by
    cases e
    exact p
  | x :: xs, s0, s, e, h, p => by
    rw [loopL] at e
    cases hf : f s0 x with
    | nx s' =>
      rw [hf] at e
      exact loop_keepM (xs := xs) e (fun s x s' hx => h s x s' (List.mem_cons_of_mem _ hx)) (h s0 x s' List.mem_cons_self p hf)
    | rt r => rw [hf] at e; cases e
theorem loop_fold {S α R : Type} {h : S → α → S} : ∀ {xs : List α} {s0 : S}, loopL (R := R) (fun s x => .nx (h s x)) xs s0 = .nx (xs.foldl h s0)
  | [], _ => rfl
  | x :: xs, s0 => by
    rw [loopL, List.foldl_cons]
    exact loop_fold
end Kn
namespace Kn
open PySem PySem.Spec PyProof.Rows L2
def TI {α : Type} (p : α → PyData) : Prop := ∀ (x y : α) (r s : List (Int ⊕ List Nat)), PySem.W.keyToks (p x) ++ r = PySem.W.keyToks (p y) ++ s → x = y ∧ r = s
theorem ti_int : TI PyData.int := fun x y r s h => by
  rw [PySem.W.keyToks, PySem.W.keyToks] at h
  injection h with h1 h2
  injection h1 with h1
  exact ⟨h1, h2⟩
theorem ti_str : TI PyData.str := fun x y r s h => by
  rw [PySem.W.keyToks, PySem.W.keyToks] at h
  injection h with h1 h2
  injection h1 with h1
  exact ⟨PySem.W.str_of_cps h1, h2⟩
theorem toks_nil (r : List (Int ⊕ List Nat)) : PySem.W.keyToksAll [] ++ r = .inl 0 :: r := by rw [PySem.W.keyToksAll]; rfl
theorem toks_cons (x : PyData) (xs : List PyData) (r : List (Int ⊕ List Nat)) : PySem.W.keyToksAll (x :: xs) ++ r = .inl 1 :: (PySem.W.keyToks x ++ (PySem.W.keyToksAll xs ++ r)) := by
  rw [PySem.W.keyToksAll, List.cons_append, List.append_assoc]
theorem ti_all {α : Type} {p : α → PyData} (h : TI p) : ∀ (xs ys : List α) (r s : List (Int ⊕ List Nat)), PySem.W.keyToksAll (xs.map p) ++ r = PySem.W.keyToksAll (ys.map p) ++ s → xs = ys ∧ r = s
  | [], [], r, s, e => by
    rw [List.map_nil, toks_nil, toks_nil] at e
    injection e with _ e
    exact ⟨rfl, e⟩
  | [], y :: ys, r, s, e => by
    rw [List.map_nil, List.map_cons, toks_nil, toks_cons] at e
    injection e with e _
    injection e with e
    exact absurd e (by decide)
  | x :: xs, [], r, s, e => by
    rw [List.map_nil, List.map_cons, toks_nil, toks_cons] at e
    injection e with e _
    injection e with e
    exact absurd e (by decide)
  | x :: xs, y :: ys, r, s, e => by
    rw [List.map_cons, List.map_cons, toks_cons, toks_cons] at e
    injection e with _ e
    obtain ⟨e1, e2⟩ := h x y _ _ e
    obtain ⟨e3, e4⟩ := ti_all h xs ys r s e2
    exact ⟨by rw [e1, e3], e4⟩
theorem ti_vtup {α : Type} {p : α → PyData} (h : TI p) : TI (fun xs : List α => PyData.tuple (xs.map p)) := fun x y r s e => ti_all h x y r s (by rw [PySem.W.keyToks, PySem.W.keyToks] at e; exact e)
theorem ti_t4 {α β γ δ : Type} {p : α → PyData} {q : β → PyData} {u : γ → PyData} {v : δ → PyData} (h1 : TI p) (h2 : TI q) (h3 : TI u) (h4 : TI v) : TI (fun x : α × β × γ × δ => PyData.tuple [p x.1, q x.2.1, u x.2.2.1, v x.2.2.2]) := fun x y r s e => by
  simp only [PySem.W.keyToks, toks_cons, toks_nil] at e
  injection e with _ e
  obtain ⟨a1, e⟩ := h1 _ _ _ _ e
  injection e with _ e
  obtain ⟨a2, e⟩ := h2 _ _ _ _ e
  injection e with _ e
  obtain ⟨a3, e⟩ := h3 _ _ _ _ e
  injection e with _ e
  obtain ⟨a4, e⟩ := h4 _ _ _ _ e
  injection e with _ e
  exact ⟨Prod.ext a1 (Prod.ext a2 (Prod.ext a3 a4)), e⟩
theorem ti_anti {α : Type} {p : α → PyData} (h : TI p) {a b : α} (h1 : PySem.W.dataLe false p a b = true) (h2 : PySem.W.dataLe false p b a = true) : a = b := by
  rw [PySem.W.dataLe_eq] at h1 h2
  have g1 : (!PySem.W.dataLt (p b) (p a)) = true := h1
  have g2 : (!PySem.W.dataLt (p a) (p b)) = true := h2
  rw [Bool.not_eq_true'] at g1 g2
  have e := PyProof.Rows.lex_total _ _ g2 g1
  exact (h a b [] [] (by rw [e])).1
theorem srt_as {α : Type} {p : α → PyData} (h : TI p) {xs ys : List α} (e : xs.Perm ys) : srtD p xs = srtD p ys :=
  perm_one (r := fun a b => PySem.W.dataLe false p a b = true) (fun _ _ => ti_anti h) (srt_pw p xs) (srt_pw p ys) (srt_perm.trans (e.trans srt_perm.symm))
theorem srt_as_nd {α : Type} {p : α → PyData} (h : TI p) {xs ys : List α} (hx : xs.Nodup) (hy : ys.Nodup) (e : ∀ x, x ∈ xs ↔ x ∈ ys) : srtD p xs = srtD p ys := srt_as h ((List.perm_ext_iff_of_nodup hx hy).mpr e)
end Kn
namespace Kn
open PySem PySem.Spec PyProof.Rows L2 LamX
def obsTt (n : Nat) (sx : List Addr) (fa : List He.Fa) (fn : List He.DefD) (ex : PySem.W.Frag → Bool) (g : Addr → Option Obj) : AlM := lt (He.frT g (He.asD g n ++ sx)) fun K => (He.obsD fa fn K, ex K)
def hookTt (n : Nat) (sx : List Addr) (fa : List He.Fa) (fn : List He.DefD) (ex : PySem.W.Frag → Bool) : PySem.W.Hook where
  α := AlM
  obs := fun s => obsTt n sx fa fn ex s.heap.get?
  val := fun _ => (He.valD fn, true)
  says := fun _ h => ∃ K : PySem.W.Frag, K.In h ∧ (∀ a o, K.lookup a = some o → He.emptyTab o = false) ∧ SaysM fa fn ex K
  of := fun _ _ e => ⟨_, He.frT_in, fun _ _ h => (He.frT_mem h).2, ⟨congrArg (fun z : AlM => z.1) e, congrArg (fun z : AlM => z.2) e⟩⟩
  keeps := fun _ _ _ ⟨K, hK, hE, c⟩ k => ⟨K, PySem.W.Frag.In.keeps hK k, hE, c⟩
theorem obsTt_eq {n : Nat} {sx : List Addr} {fa : List He.Fa} {fn : List He.DefD} {ex : PySem.W.Frag → Bool} {g : Addr → Option Obj} {s : Shared} (h : ∀ a, g a = s.heap.get? a) : obsTt n sx fa fn ex g = (hookTt n sx fa fn ex).obs s := by
  have e : g = s.heap.get? := funext h
  rw [e]
  rfl
abbrev lamName (x0 : Str) : Str := x0 ++ ".<locals>." ++ "<lambda>"
def spT (K : PySem.W.Frag) (x0 : Str) (P : Addr) : SpecD := fun ds O rk => ∃ ns : List Int, ns.length ≤ 63 ∧ O = [(P, oTab (lamName x0))] ∧ ds = [dLst K (ns.map dI)] ∧ rk = RK.val (dB true) O
theorem walk_knT {l : PySem.W.OpenLaw} {k : Nat} {q : Program} {loose : List Str} {XP : (Str → Option Value) → Heap → Prop} {YP : World → Heap → Prop} {d : DefRec} {x x0 : Str}
    (hn : l.most = some 63) (hdf : d.params.defaults = []) (hr : Room k callerA) (hrec : ((recsOf q).any fun e => e.name == x0) = true)
    (F : ∀ (w : World) (mg : Str → Option Value) (fa : Addr) (h : Heap), YP w h → h.Ns mainGlobals mg → mg d.name = some (.ref fa) →
      ∃ (K : PySem.W.Frag) (fd : FuncData), K.In h ∧ (∀ a o, K.lookup a = some o → He.emptyTab o = false) ∧ (∀ (s : Shared) (u : Value), BindsTo s fd ⟨[u], []⟩ [(x, u)]) ∧
        ∀ (c P : Addr) (base : Heap), (∀ (f : Addr) (o : Obj) (fd : FuncData), mg x0 = some (.ref f) → K.lookup f = some o → o.data = .func fd → fd.code = .ref c) → K.In base → base.Ns mainGlobals mg → TabB base mg c P → FnOk l.prog w K mg base (CX l.prog w) k fa fd [x] (spD (spT K x0 P))) :
    PySem.W.WalkO q loose XP YP l.row.toRowW d [] (fun f vs => PySem.call f vs) := by
  refine Att.attach_callB hn hdf fun w s₀ s₁ mg mb fa o pm cd doc a vs ns G Y ho hd hcd hmg hobj hints hlen hbits hg => ?_
  obtain ⟨K, fd, KX, hE, hb, hF⟩ := F w mg fa _ Y G.T.g hmg
  obtain ⟨d0, hm0, hn0⟩ := List.any_eq_true.mp hrec
  have hn1 : d0.name = x0 := beq_iff_eq.mp hn0
  obtain ⟨a', o', fd', c, P, h1, h2, h3, h4, h5, h6⟩ := G.T.tab d0 hm0
  rw [hn1] at h1
  have hP : s₁.heap.get? P = some { cls := .none, data := .fields #[] } := h6.2
  have nP : K.lookup P = none := by
    cases e : K.lookup P with
    | none => rfl
    | some u =>
      have e2 := KX _ _ e
      rw [hP] at e2
      have e3 := hE _ _ e
      rw [← Option.some.inj e2] at e3
      cases e3
  have hcd : ∀ (f : Addr) (o : Obj) (fd : FuncData), mg x0 = some (.ref f) → K.lookup f = some o → o.data = .func fd → fd.code = .ref c := fun f o fd2 e1 e2 e3 => by
    rw [h1] at e1
    cases e1
    have e4 := KX _ _ e2
    rw [h2] at e4
    cases e4
    rw [h3] at e3
    cases e3
    exact h4
  refine law_callTs (cs := [(c, P)]) (sp := spD (spT K x0 P)) (CX := CX l.prog w) KX G.T.g G.T.b G.T.builtins G.T.nolimit hg (fun p hp => ?_) (fun p hp => ?_) (fun p hp => ?_) G.T.bmain hobj hints (Nat.le_trans hlen (by decide)) hr (fun base b1 b2 b3 => hF c P base hcd b1 b2 (b3 _ List.mem_cons_self)) hb (fun H hH hS => ?_) fun H e s' h => by
    obtain ⟨_, _, _, _, _, _, _, _, _, _, _, _, z⟩ := h
    exact z.elim
  · rw [List.mem_singleton.mp hp]; exact hP
  · rw [List.mem_singleton.mp hp]; exact nP
  · rw [List.mem_singleton.mp hp]; exact PySem.W.CodeHd.of h5 h6
  · have hHP : H P = some (.tbl #[]) := hH _ List.mem_cons_self
    have g : Gw (fun b => if b = P then none else H b) H := fun b o e => by
      by_cases hb : b = P
      · cases (if_pos hb).symm.trans e
      · exact (if_neg hb).symm.trans e
    have hl : LsA K (fun b => if b = P then none else H b) a (ns.map V.int) := by
      rcases hS with hS | ⟨o, its, m, hk, h1, h2, h3, h4, h5⟩
      · refine .inl (hS.elim (fun z => .inl ?_) fun ⟨o, z⟩ => .inr ⟨o, ?_⟩)
        · have hne : a ≠ P := fun e => by rw [e, hHP] at z; cases z
          exact (if_neg hne).trans z
        · have hne : a ≠ P := fun e => by rw [e, hHP] at z; cases z
          exact (if_neg hne).trans z
      · have e := KX a o hk
        rw [hobj] at e
        cases e
        cases h3
        exact .inr ⟨_, _, hk, h4, h5⟩
    refine ⟨_, [(P, oTab (lamName x0))], _, fun b => if b = P then none else H b, ⟨ns, hlen, rfl, rfl, rfl⟩, ⟨g, List.nodup_cons.mpr ⟨fun z => (nomatch z), List.nodup_nil⟩, fun q hq => ?_⟩, ⟨⟨a, ns.map V.int, rfl, hl, ?_⟩, trivial⟩, fun v H' hv => ?_, fun _ _ _ z => z⟩
    · rw [List.mem_singleton.mp hq]
      exact ⟨if_pos rfl, _, hHP, #[], rfl, trivial, fun pos cv z => nomatch z⟩
    · rw [map_dI]
      exact allD_dV _
    · obtain ⟨F', _, _, hv⟩ := hv
      exact hv
end Kn
namespace Kn
open PySem PySem.Spec PyProof.Rows L2
section
variable {prog : Program} {w : World} {K : Type} [DecidableEq K] {knd : HeapKind prog w K} {A : Around} {E : Value → Shared → Prop} {s : Shared} {env : Env}
theorem dict_walkH {keys : List (Option Expr)} {values : List Expr} {pos : Pos} {Q : Value → Shared → Prop} (hu : knd.room A) (hall : keys.all (·.isSome) = true) (hl : keys.length = values.length) (h0 : keys ≠ []) (hlen : keys.length ≤ 15)
    (h : wpAny (model prog w) A (evalPairs (pairTrees keys values env pos)) (fun vs s₁ => ∃ ps, CarriesH knd s₁.heap vs ps ∧ s₁.heap.DictOfH knd s.heap.objs.size [] ∧
      ∀ h' tk, h'.DictOfH knd s.heap.objs.size (storedAllH [] ps) → Heap.SameBut s.heap.objs.size s₁.heap h' → Q (.ref s.heap.objs.size) { s₁ with heap := h', toks := tk }) E
      { s with heap := s.heap.push { cls := .type "dict", data := .dict #[] } }) :
    wpAny (model prog w) A (eval (.Dict keys values pos) env) Q E s := by
  have hn := pairTrees_length keys values env pos hall hl
  have hne : pairTrees keys values env pos ≠ [] := by
    intro he
    rw [he] at hn
    exact h0 (List.length_eq_zero_iff.mp hn.symm)
  rw [arm_eval_Dict, zip_pairTrees keys values env pos hall hl, dictDisplay_pairs _ hne (by rw [hn]; omega)]
  exact wpAny_bind (wpAny_standAt (wpAny_bind (wpAny_subDictH (knd := knd) (Q := fun d s' => wpAny (model prog w) A (pure (Value.ref d)) Q E s') hu (by rw [hn]; exact hlen)
    (wpAny_mono h (fun vs s₁ h₁ => by obtain ⟨ps, hc, hm, hq⟩ := h₁; exact ⟨ps, hc, hm, fun h' tk a b => wpAny_pure (hq h' tk a b)⟩) fun _ _ e => e))))
end
section
variable {G : Cfg} {C : Sc} {Γ : Fr} {O : Own} {a b : Expr} {pos : Pos} {κ α : Type} [DecidableEq κ] {kn : κ → NestedKey} {dk : κ → D} {f : α → D} {key : κ} {y : α}
theorem et_dn1 (nk : NKey G.K kn dk) (ha : ∀ p, E G C a Γ ((p, oDn G kn dk f p ([] : List (κ × α))) :: O) (dk key)) (hb : ∀ p, E G C b Γ ((p, oDn G kn dk f p ([] : List (κ × α))) :: O) (f y)) : ET G C (.Dict [some a] [b] pos) Γ O (fun R => ∀ p, R ((p, oDn G kn dk f p [(key, y)]) :: O) (dP p)) := .mk fun X cc F σ H hh R t Q q pins s I => by
  have hp := I.hok.fresh (Nat.le_refl s.heap.objs.size)
  have I0 := I.laid (a := s.heap.objs.size) (o := hoN X.prog X.w s.heap.objs.size []) (h' := s.heap.push { cls := .type "dict", data := .dict #[] }) (t' := s.toks) (fun _ _ q => Heap.get?_push_of_some _ q) (Nat.le_refl _) (hoN_ok ⟨Nat.zero_le _, beq_eq_false_iff_ne.mpr (Ne.symm (Nat.ne_of_lt I.big)), [], .nil, _, #[], 0, Heap.get?_push_size _ rfl, ⟨rfl, rfl, rfl⟩, rfl, rfl, List.nodup_nil⟩)
  have h0 : Hold F Γ ((s.heap.objs.size, oDn G kn dk f s.heap.objs.size ([] : List (κ × α))) :: O) σ (upd H s.heap.objs.size (hoN X.prog X.w s.heap.objs.size [])) := ⟨hh.fr, hh.ho.own hp ⟨[], by rw [cc.p, cc.w], trivial⟩⟩
  refine dict_walkH (knd := nestedKind X.prog X.w) (by show X.A.units + 8 < cLine; have := cc.rm; unfold roomN at this; omega) rfl rfl (by simp) (by show 1 ≤ 15; omega) (pairTrees_cons_walk (thn ((ha _).go cc h0 I0) fun u s1 ⟨v1, F1, H1, I1, r1, e1, h1, d1⟩ => thn ((hb _).go cc h1 I1) fun iv s2 ⟨v2, F2, H2, I2, r2, e2, h2, d2⟩ => pairTrees_nil_walk ?_))
  obtain ⟨b1, rfl⟩ := nk.ref _ _ _ d1
  obtain rfl : u = Value.ref b1 := r1
  obtain ⟨_, o, hpo, us, rfl, hal⟩ := h2.ho.at (k := 0) rfl
  have hus : us = [] := by
    have := hal.length
    exact List.length_eq_zero_iff.mp this
  subst hus
  rw [← cc.p, ← cc.w] at hpo
  have hk : NK X H2 (kn key) b1 := ⟨nk.dep _, fun pins σ s I => nk.is key F2 H2 _ h2.ho.ex ((dk key).mono e2 d1) X pins σ s _ cc.K I rfl⟩
  obtain ⟨z, hd, xs, rel, dd⟩ := NDic.of I2 (us := []) ⟨.inl hpo, fun _ h => nomatch h⟩
  cases rel
  refine ⟨[(kn key, b1, iv)], ⟨rfl, rfl, hk.is I2, trivial⟩, dd, fun h' tk dd' hs => ?_⟩
  obtain ⟨qo, es, ep, hq, g2, g3, g4, _, g5⟩ := dd'
  have rel2 : Paired entN (putN [] (kn key) b1 v2) (storedH [] (kn key) b1 iv) := entN_put .nil (kn key) b1 r2
  have I3 := d_write (t' := tk) (ob := hoN X.prog X.w s.heap.objs.size (putN [] (kn key) b1 v2)) I2 (by rw [hpo]; exact True.intro) hs ⟨qo, hq⟩ (hoN_ok ⟨(by show 1 ≤ sizeLine; rw [sizeLine_eq]; omega), hd, _, rel2, qo, es, ep, hq, g2, g3, g4, g5⟩)
  refine ⟨.ref s.heap.objs.size, _, I3, rfl, ?_⟩
  exact q F2 _ (.ref s.heap.objs.size) _ _ (t s.heap.objs.size) (e1.trans e2) ⟨h2.fr, h2.ho.write (k := 0) rfl ⟨_, by rw [cc.p, cc.w], hal.put nk ((dk key).mono e2 d1) d2⟩⟩ rfl
end
section
variable {G : Cfg} {C : Sc} {Γ : Fr} {O : Own} {a tg : Expr} {p1 pos : Pos} {ds : List D}
theorem ei_rev [Calm C] (g : Glo C "reversed") (hm : G.mg "reversed" = none) (ha : E G C a Γ O (dLst G.K ds)) (hs : ∀ env, starEach [a] env = (false, eval a env) :: starEach [] env) : EI G C tg (.Call (.Name "reversed" p1) [a] [] pos) Γ O anyO ds.reverse := .mk fun X c F σ H hh R q =>
  wi_of (RT.pi_revA (c.gl g) (by rw [c.mg]; exact hm) pe_can (hs X.env)) (ha.run X c F σ H hh _ fun F1 H1 v e1 h1 d1 => by
    obtain ⟨a, vs, rfl, hl, hal⟩ := d1
    have hs' : ∀ {F' O' H'}, Gw F1 F' → HoldO F' O' H' → SqL X.K H' a vs := fun e h => by rw [c.K]; exact gw_l (e.trans h.ex) hl.sq
    have hlen := AllD.length hal
    refine ⟨a, vs, rfl, .inl ⟨hs' (Gw.refl _) h1.ho, q _ F1 H1 e1 h1 ⟨fun i d hd F O H _ e h => ?_, fun F O H _ e h => ?_⟩⟩⟩
    · have hi : i < ds.length := by
        have := (List.getElem?_eq_some_iff.mp hd).1
        rw [List.length_reverse] at this
        exact this
      rw [List.getElem?_reverse hi] at hd
      obtain ⟨v, hv, dv⟩ := AllD.get hal hd
      rw [← hlen] at hv
      refine ⟨⟨by omega, vs, v, hs' e h, hv⟩, fun x H' hy => ?_⟩
      obtain ⟨rfl, hx⟩ := hy
      have z := hx vs (hs' e h)
      rw [hv] at z
      cases z
      exact ⟨F, Gw.refl F, h, d.mono e dv⟩
    · rw [List.length_reverse, ← hlen]
      exact Nat.le_refl _)
theorem ei_revM [Calm C] {α : Type} {f : α → D} {xs : List α} (g : Glo C "reversed") (hm : G.mg "reversed" = none) (ha : E G C a Γ O (dLst G.K (xs.map f))) (hs : ∀ env, starEach [a] env = (false, eval a env) :: starEach [] env) : EI G C tg (.Call (.Name "reversed" p1) [a] [] pos) Γ O anyO (xs.reverse.map f) := by
  rw [List.map_reverse]
  exact ei_rev g hm ha hs
end
section
variable {G : Cfg} {C : Sc} {Γ : Fr} {O : Own} {S1 R B α : Type} {k : Ek S1 R} {e : Expr} {ss : List Stmt} {pos p1 : Pos} {x : Str}
end
end Kn
namespace Kn
open PySem PySem.Spec PyProof.Rows L2
theorem ss_fr70 {G : Cfg} {C : Sc} {Γ Γ1 : Fr} {O : Own} {S R : Type} {k : Ek S R} {o : Out S R} {ss : List Stmt} (l : FrLe Γ Γ1) (h : SS G C ss Γ1 O k o) : SS G C ss Γ O k o := .mk fun X c W tk F σ H hh D m => h.run X c W tk F σ H ⟨hh.fr.le l, hh.ho⟩ D m
end Kn
namespace Kn
open PySem PySem.Spec PyProof.Rows L2
section
variable {G : Cfg} {C : Sc} {Γ : Fr} {O : Own} {a b : Expr} {pos : Pos} {α : Type} {f : α → D} {key : Str} {y : α}
end
section
variable {G : Cfg} {C : Sc} {Γ : Fr} {O : Own} {S1 R : Type} {k : Ek S1 R} {o : Out S1 R} {ss : List Stmt} {pos px py pz pt pt2 : Pos} {x y z : Str} {a b c : Expr} {kt k2 : Nat} {d1 d2 d3 : D}
end
end Kn
namespace Kn
open PySem PySem.Spec PyProof.Rows L2
section
variable {P : Program} {w : World} {K : Type} [DecidableEq K] {knd : KeyKind P w K} {A : Around} {E : Value → Shared → Prop} {s : Shared}
structure QK (knd : KeyKind P w K) : Prop where
  cls : ∀ {k : K} {v : Value}, knd.is k v = true → ∀ n, ofAClassStatement n v = pure false
  byv : ∀ {k : K} {v : Value}, knd.is k v = true → ∃ b, ∀ n, hashByValue n v = pure b
theorem qk_str : QK (PySem.strKind P w) where
  cls := fun h n => by
    obtain ⟨t, rfl⟩ := Value.isStrOf_shape h
    cases n <;> rfl
  byv := fun h => by
    obtain ⟨t, rfl⟩ := Value.isStrOf_shape h
    exact ⟨false, fun n => by cases n <;> rfl⟩
theorem ia_each {ks : List K} {vs : List Value} (h : ItemsAre knd ks vs) : ∀ v ∈ vs, ∃ k, knd.is k v = true := by
  induction h with
  | nil => exact fun v z => nomatch z
  | cons h1 _ ih =>
    intro v z
    cases z with
    | head => exact ⟨_, h1⟩
    | tail _ z => exact ih v z
theorem q_cls (q : QK knd) {k : List K} {b : Addr} {Q : Bool → Shared → Prop} (hk : IsTupleKey knd s.heap k b) (h : Q false s) : wpAny (model P w) A (ofAClassStatement 8 (.ref b)) Q E s := by
  have ty := hk.typeIs
  obtain ⟨o, its, n, e1, _, e2, e3⟩ := hk
  have all := ia_each e3
  unfold ofAClassStatement
  refine wpAny_bind (wpAny_typeOf ty ?_)
  dsimp only
  have e : (("tuple" : String) == "tuple") = true := by decide
  simp only [e, if_true, Bool.not_true, Bool.false_eq_true, if_false]
  try refine wpAny_bind (wpAny_pure ?_)
  try simp only [Bool.not_true, Bool.false_eq_true, if_false]
  refine wpAny_bind (wpAny_seqItems e1 e2 (wpAny_bind ?_))
  show wpAny _ _ (forIn its _ _) _ _ s
  rw [← Array.forIn_toList]
  refine wpAny_forIn_list _ (fun l r u => (r.1 = none ∧ u = s) ∧ ∀ v ∈ l, ∃ k, knd.is k v = true) _ (fun v l r u z => ?_) (fun r u z => ?_) _ _ ⟨⟨rfl, rfl⟩, all⟩
  · obtain ⟨⟨_, rfl⟩, z⟩ := z
    obtain ⟨k', hv⟩ := z v (.head _)
    rw [q.cls hv]
    exact wpAny_bind (wpAny_pure (wpAny_pure ⟨⟨rfl, rfl⟩, fun v' y => z v' (.tail _ y)⟩))
  · obtain ⟨r1, r2⟩ := r
    obtain ⟨⟨rfl, rfl⟩, _⟩ := z
    exact wpAny_pure h
theorem q_byv (q : QK knd) {k : List K} {b : Addr} {Q : Bool → Shared → Prop} (hk : IsTupleKey knd s.heap k b) (h : ∀ x, Q x s) : wpAny (model P w) A (hashByValue 8 (.ref b)) Q E s := by
  have ty := hk.typeIs
  obtain ⟨o, its, n, e1, _, e2, e3⟩ := hk
  have all := ia_each e3
  unfold hashByValue
  refine wpAny_bind (wpAny_specialOf ty F.slot_tuple_hash.lookup ?_)
  show wpAny _ _ (seqItems? (.ref b) >>= _) _ _ s
  refine wpAny_bind (wpAny_seqItems e1 e2 (wpAny_bind ?_))
  show wpAny _ _ (forIn its _ _) _ _ s
  rw [← Array.forIn_toList]
  refine wpAny_forIn_list _ (fun l r u => u = s ∧ ∀ v ∈ l, ∃ k, knd.is k v = true) _ (fun v l r u z => ?_) (fun r u z => ?_) _ _ ⟨rfl, all⟩
  · obtain ⟨rfl, z⟩ := z
    obtain ⟨k', hv⟩ := z v (.head _)
    obtain ⟨x, hx⟩ := q.byv hv
    rw [hx]
    refine wpAny_bind (wpAny_pure ?_)
    cases x
    · refine wp_if_pos rfl (wpAny_pure ?_)
      exact wpAny_pure (h _)
    · refine wp_if_neg (by decide) (wpAny_pure ?_)
      exact ⟨rfl, fun v' y => z v' (.tail _ y)⟩
  · obtain ⟨rfl, _⟩ := z
    obtain ⟨r1, r2⟩ := r
    cases r1 <;> exact wpAny_pure (h _)
theorem q_seen (q : QK knd) {k : List K} {b : Addr} {Q : Bool → Shared → Prop} (hk : IsTupleKey knd s.heap k b) {ys : List Value} (hy : ∀ y ∈ ys, ∃ k' c, y = Value.ref c ∧ IsTupleKey knd s.heap k' c) (h : Q false s) :
    wpAny (model P w) A (searchCouldBeSeen (.ref b) ys) Q E s := by
  unfold searchCouldBeSeen
  refine wpAny_bind (wpAny_forIn_list _ (fun l r u => (r.1 = none ∧ u = s) ∧ ∀ y ∈ l, ∃ k' c, y = Value.ref c ∧ IsTupleKey knd s.heap k' c) _ (fun v l r u z => ?_) (fun r u z => ?_) _ _ ⟨⟨rfl, rfl⟩, hy⟩)
  · obtain ⟨⟨_, rfl⟩, z⟩ := z
    obtain ⟨k', c, rfl, hc⟩ := z v (.head _)
    have on : ∀ y ∈ l, ∃ k' c, y = Value.ref c ∧ IsTupleKey knd u.heap k' c := fun y m => z y (.tail _ m)
    dsimp only
    by_cases g : (b == c || (carriedByValue (.ref b) && carriedByValue (.ref c))) = true
    · exact wp_if_pos g (wpAny_pure ⟨⟨rfl, rfl⟩, on⟩)
    · refine wp_if_neg g (wpAny_bind (wpAny_eqIsQuiet_tuple hk (wp_if_neg (by decide) (wpAny_bind (wpAny_eqIsQuiet_tuple hc (wp_if_neg (by decide) ?_))))))
      refine wpAny_bind (q_cls q hk (wp_if_neg (by decide) (wpAny_bind (q_cls q hc (wp_if_neg (by decide) (wpAny_pure ⟨⟨rfl, rfl⟩, on⟩))))))
  · obtain ⟨r1, r2⟩ := r
    obtain ⟨⟨rfl, rfl⟩, _⟩ := z
    exact wpAny_pure h
end
section
variable {P : Program} {w : World} {K : Type} [DecidableEq K] {knd : KeyKind P w K} {A : Around} {E : Value → Shared → Prop} {s : Shared}
abbrev hsT (knd : KeyKind P w K) (p : Addr × List K) : Int := tupleKeyHash knd p.2
def rwT (knd : KeyKind P w K) (L : List (Addr × List K)) : List (Int × Value) := L.map fun p => (hsT knd p, Value.ref p.1)
theorem rwT_len (L : List (Addr × List K)) : (rwT knd L).length = L.length := List.length_map ..
structure TSet (knd : KeyKind P w K) (h : Heap) (a : Addr) (L : List (Addr × List K)) (es : Array (Int × Value)) (ep : Nat) (t : SetTable) : Prop where
  has : ∃ o, h.get? a = some o ∧ o.ExactSet ∧ o.data = .set es ep t
  row : es.toList = rwT knd L
  lay : TabOk t (L.map (hsT knd))
  one : (L.map Prod.snd).Nodup
  key : ∀ p ∈ L, IsTupleKey knd h p.2 p.1
  ldd : w.params.followText "set-order" = true ∨ t.led = true
  rm : L.length * 5 < t.mask * 3
  lt : L.length < 64
variable {a : Addr} {L : List (Addr × List K)} {es : Array (Int × Value)} {ep : Nat} {t : SetTable}
theorem rw_size (e : es.toList = rwT knd L) : es.size = L.length := by
  rw [← Array.length_toList, e, rwT_len]
theorem rw_at (e : es.toList = rwT knd L) {i : Nat} {p : Addr × List K} (h : L[i]? = some p) : es[i]? = some (hsT knd p, Value.ref p.1) := by
  rw [← Array.getElem?_toList, e, rwT, List.getElem?_map, h]
  rfl
theorem fit_of (sz : t.place.size = es.size) (dm : t.dummies = #[]) (h : es.size ≤ t.mask) : t.fits es.size = true := by
  unfold SetTable.fits SetTable.fill
  rw [dm]
  simp only [sz, Bool.and_eq_true, beq_self_eq_true, decide_eq_true_eq, true_and]
  exact h
theorem TSet.plc (R : TSet knd s.heap a L es ep t) : t.place.size = L.length := R.lay.sz.trans (List.length_map ..)
theorem TSet.fit (R : TSet knd s.heap a L es ep t) : t.fits es.size = true := by
  have z := R.rm
  have y := rw_size R.row
  exact fit_of (R.plc.trans y.symm) R.lay.dm (by omega)
theorem TSet.whole (R : TSet knd s.heap a L es ep t) : ¬ t.gaveWay = true := by
  unfold SetTable.gaveWay
  rw [mask_odd R.lay.mok]
  decide
abbrev stp (t : SetTable) (H : Int) (c : Nat) : SetTable.Probe := L2.nth t.mask (t.probeStart H) c
theorem stp_dm (t : SetTable) (H : Int) (c : Nat) : (stp t H c).dummy = none := by
  have key : ∀ n, ∀ p : SetTable.Probe, p.dummy = none → (L2.nth t.mask p n).dummy = none := by
    intro n
    induction n with
    | zero => exact fun _ z => z
    | succ n ih => exact fun p z => ih (adv t.mask p) (by unfold adv; split <;> exact z)
  exact key c _ rfl
theorem stp_add (t : SetTable) (H : Int) (c d : Nat) : L2.nth t.mask (stp t H c) d = stp t H (c + d) := (nth_add t.mask c (t.probeStart H) d).symm
abbrev hAt (es : Array (Int × Value)) : Nat → Int := fun i => (es[i]?.map (·.1)).getD 0
theorem seek (R : TSet knd s.heap a L es ep t) (q : QK knd) {x : Addr} {k : List K} {H : Int} (eH : tupleKeyHash knd k = H) (hx : IsTupleKey knd s.heap k x) (hu : A.units < cLine) {N : Nat} (n1 : N < 10 * SetTable.turns t.mask)
    (n2 : way t.mask H N ∉ t.place.toList) (n3 : ∀ c, c < N → way t.mask H c ∈ t.place.toList) {Q : SetFound → Shared → Prop} (yes : k ∈ L.map Prod.snd → Q (.there none) s) (no : k ∉ L.map Prod.snd → Q (.free (way t.mask H N) false) s) (f : Nat) :
    ∀ (c : Nat) (st : Option SetTable.Probe), st.getD (t.probeStart H) = stp t H c → c ≤ N → N < c + f → (∀ (i : Nat) p, L[i]? = some p → p.2 = k → ∃ d, c ≤ d ∧ d < N ∧ t.place.toList[i]? = some (way t.mask H d)) →
      wpAny (model P w) A (setSearchFrom a (.ref x) H true f st) Q E s := by
  have hashed : ∀ (i : Nat) p, L[i]? = some p → p.2 = k → hAt es i = H := fun i p y e => by
    show (es[i]?.map (·.1)).getD 0 = H
    rw [rw_at R.row y, ← eH, ← e]
    rfl
  induction f with
  | zero => exact fun c st _ z1 z2 _ => absurd z2 (by omega)
  | succ f ih =>
    intro c st est z1 z2 rest
    obtain ⟨o, ho, hex, hd⟩ := R.has
    rw [setSearchFrom_succ]
    refine wpAny_bind (wpAny_setState_of ho hd R.fit ?_)
    dsimp only
    refine wp_if_neg R.whole ?_
    try refine wpAny_bind (wpAny_pure ?_)
    have wj : ∀ d, (L2.nth t.mask (stp t H c) d).j = way t.mask H (c + d) := fun d => congrArg SetTable.Probe.j (stp_add t H c d)
    have met := go_spec t R.lay.ris R.lay.dm (hAt es) H (10 * SetTable.turns t.mask) (N - c) (stp t H c) (stp_dm t H c) (by omega) (fun d z => by rw [wj]; exact n3 _ (by omega)) (by rw [wj, show c + (N - c) = N by omega]; exact n2)
    -- an item with the key sought is not passed by
    have past : ∀ d, (∀ d' i', d' < d → t.place.toList[i']? = some (L2.nth t.mask (stp t H c) d').j → hAt es i' ≠ H) → ∀ (i : Nat) p, L[i]? = some p → p.2 = k → ∃ d', c + d ≤ d' ∧ d' < N ∧ t.place.toList[i]? = some (way t.mask H d') := fun d nn i p y e => by
      obtain ⟨d', y1, y2, y3⟩ := rest i p y e
      by_cases lt : d' < c + d
      · refine absurd (hashed i p y e) (nn (d' - c) i (by omega) ?_)
        rw [wj, show c + (d' - c) = d' by omega]
        exact y3
      · exact ⟨d', by omega, y2, y3⟩
    rcases met with ⟨d, i, lt, hi, eh, nn, pr⟩ | ⟨nn, pr⟩
    · have pr2 : t.probe (hAt es) H (st.getD (t.probeStart H)) = some (.candidate (way t.mask H (c + d)) i (stp t H (c + (d + 1)))) := by
        rw [est, ← wj, ← stp_add]
        exact pr
      rw [pr2]
      dsimp only
      rw [wj] at hi
      have li : i < L.length := by
        rw [← R.plc, ← Array.length_toList]
        exact (List.getElem?_eq_some_iff.mp hi).1
      obtain ⟨p, hp⟩ : ∃ p, L[i]? = some p := ⟨_, List.getElem?_eq_getElem li⟩
      have mp : p ∈ L := List.mem_of_getElem? hp
      have sl : t.slot (way t.mask H (c + d)) = .live i := slot_live R.lay.ris hi
      have on : wpAny (model P w) A (searchRest a (.ref x) H true f es t (way t.mask H (c + d)) i (stp t H (c + (d + 1)))) Q E s := by
        unfold searchRest
        rw [rw_at R.row hp]
        refine wpAny_bind (wpAny_holding (wpAny_eqBool_tuple hu (R.key p mp) hx (wpAny_bind (wpAny_setState_of ho hd R.fit ?_))))
        dsimp only
        by_cases e : p.2 = k
        · exact wp_if_pos (by simp [e]) (wpAny_pure (yes (List.mem_map.mpr ⟨p, mp, e⟩)))
        · refine wp_if_neg (by simp [e]) ?_
          try refine wpAny_bind (wpAny_pure ?_)
          rw [sameMem]
          simp only [if_true, sl, rw_at R.row hp]
          refine wpAny_bind (wpAny_isSame_ref_self (wpAny_bind (wpAny_pure ?_)))
          simp only [if_true]
          refine wp_if_neg (by simp [e]) (ih (c + (d + 1)) _ rfl (by omega) (by omega) fun i' p' y e' => ?_)
          obtain ⟨d', y1, y2, y3⟩ := past d nn i' p' y e'
          refine ⟨d', ?_, y2, y3⟩
          by_cases same : d' = c + d
          · rw [same] at y3
            have s0 := (slot_live R.lay.ris y3).symm.trans sl
            injection s0 with s0
            rw [s0, hp] at y
            exact absurd (by rw [Option.some.inj y]; exact e') e
          · omega
      by_cases led : t.led = true
      · refine wp_if_neg (by simp [led]) ?_
        try refine wpAny_bind (wpAny_pure ?_)
        exact on
      · refine wp_if_pos (by simp [led]) (wpAny_bind (q_seen q hx (fun y hy => ?_) (wp_if_neg (by decide) ?_)))
        · obtain ⟨e, he, rfl⟩ := List.mem_map.mp hy
          have he1 : e ∈ es ∧ e.1 = H := by simpa using he
          have he2 : e ∈ es.toList := by simpa using he1.1
          rw [R.row] at he2
          obtain ⟨p2, hp2, rfl⟩ := List.mem_map.mp he2
          exact ⟨p2.2, p2.1, rfl, R.key p2 hp2⟩
        · try refine wpAny_bind (wpAny_pure ?_)
          exact on
    · have pr2 : t.probe (hAt es) H (st.getD (t.probeStart H)) = some (.empty (way t.mask H N) none) := by
        have e : (L2.nth t.mask (stp t H c) (N - c)).j = way t.mask H N := by rw [wj, show c + (N - c) = N by omega]
        rw [est, ← e]
        exact pr
      rw [pr2]
      refine wpAny_pure (no fun hm => ?_)
      obtain ⟨p, hp, e⟩ := List.mem_map.mp hm
      obtain ⟨i, hi⟩ := List.mem_iff_getElem?.mp hp
      obtain ⟨d', y1, y2, _⟩ := past (N - c) nn i p hi e
      omega
theorem seek_all (R : TSet knd s.heap a L es ep t) (q : QK knd) {x : Addr} {k : List K} {H : Int} (eH : tupleKeyHash knd k = H) (hx : IsTupleKey knd s.heap k x) (hu : A.units < cLine) {Q : SetFound → Shared → Prop} (yes : k ∈ L.map Prod.snd → Q (.there none) s)
    (no : ∀ N, k ∉ L.map Prod.snd → way t.mask H N ∉ t.place.toList → (∀ c, c < N → way t.mask H c ∈ t.place.toList) → Q (.free (way t.mask H N) false) s) : wpAny (model P w) A (setSearch a (.ref x) H true) Q E s := by
  have z := R.rm
  have len : (L.map (hsT knd)).length = L.length := List.length_map ..
  obtain ⟨N, n1, n2, n3⟩ := R.lay.first (by omega) H
  have big : 10 * SetTable.turns t.mask ≤ 1420 := by
    unfold SetTable.turns
    rcases R.lay.mok with e | e | e <;> omega
  unfold setSearch
  refine seek R q eH hx hu n1 n2 n3 yes (fun h => no N h n2 n3) 100000 0 none rfl (Nat.zero_le _) (by omega) fun i p hp e => ?_
  have hi : (L.map (hsT knd))[i]? = some H := by
    rw [List.getElem?_map, hp, ← eH, ← e]
    rfl
  have li : i < t.place.toList.length := by
    rw [Array.length_toList, R.plc]
    exact (List.getElem?_eq_some_iff.mp hp).1
  obtain ⟨d, lt, e2⟩ := R.lay.before n2 hi (List.getElem?_eq_getElem li)
  exact ⟨d, Nat.zero_le _, lt, by rw [e2]; exact List.getElem?_eq_getElem li⟩
end
section
variable {P : Program} {w : World} {K : Type} [DecidableEq K] {knd : KeyKind P w K} {A : Around} {E : Value → Shared → Prop} {s : Shared}
variable {a : Addr} {L : List (Addr × List K)} {es : Array (Int × Value)} {ep : Nat} {t : SetTable}
theorem pick_all {α : Type} (l : List α) : (List.range l.length).filterMap (fun i => l[i]?) = l := by
  induction l with
  | nil => rfl
  | cons x l ih =>
    rw [List.length_cons, List.range_succ_eq_map, List.filterMap_cons, List.filterMap_map]
    exact congrArg (x :: ·) ih
theorem pick_get {β : Type} (g : Nat → Option β) (d : β) : ∀ l : List Nat, (∀ i ∈ l, (g i).isSome = true) → l.filterMap g = l.map fun i => (g i).getD d
  | [], _ => rfl
  | i :: l, h => by
    obtain ⟨y, e⟩ := Option.isSome_iff_exists.mp (h i (.head _))
    rw [List.filterMap_cons, e, List.map_cons, e, pick_get g d l fun j z => h j (.tail _ z)]
    rfl
theorem reord {order : Array Nat} (e : es.toList = rwT knd L) (hp : order.toList.Perm (List.range L.length)) :
    ∃ L2, (order.filterMap (es[·]?)).toList = rwT knd L2 ∧ L2.Perm L ∧ L2.map (hsT knd) = order.toList.map fun i => (es.map (·.1)).getD i 0 := by
  have each : ∀ i, es[i]? = (L[i]?).map fun p => (hsT knd p, Value.ref p.1) := fun i => by
    rw [← Array.getElem?_toList, e, rwT, List.getElem?_map]
  refine ⟨order.toList.filterMap fun i => L[i]?, ?_, ?_, ?_⟩
  · have z : (order.filterMap (es[·]?)).toList = order.toList.filterMap fun i => es[i]? := by
      first | exact Array.toList_filterMap .. | simp
    rw [z, rwT, List.map_filterMap]
    exact congrArg (fun g => order.toList.filterMap g) (funext each)
  · have z := hp.filterMap fun i => L[i]?
    rw [pick_all] at z
    exact z
  · rw [List.map_filterMap, pick_get _ 0 _ fun i z => ?_]
    · refine List.map_congr_left fun i _ => ?_
      rw [Array.getD_eq_getD_getElem?, Array.getElem?_map, each i, Option.map_map]
      rfl
    · have lt := List.mem_range.mp (hp.mem_iff.mp z)
      rw [List.getElem?_eq_getElem lt]
      rfl
theorem tup_same {h h' : Heap} {k : List K} {b : Addr} {o : Obj} (hb : IsTupleKey knd h k b) (ho : h.get? a = some o) (hd : o.data = .set es ep t) (sb : Heap.SameBut a h h') : IsTupleKey knd h' k b := by
  obtain ⟨o1, its, n, e1, e2, e3, e4⟩ := hb
  refine ⟨o1, its, n, (sb.2 b fun z => ?_).trans e1, e2, e3, e4⟩
  rw [z, ho] at e1
  rw [← Option.some.inj e1, hd] at e3
  exact nomatch e3
theorem relay (has : ∃ o, s.heap.get? a = some o ∧ o.ExactSet ∧ o.data = .set es ep t) (row : es.toList = rwT knd L) (sz : t.place.size = es.size) (dm : t.dummies = #[]) (le : es.size ≤ t.mask) (one : (L.map Prod.snd).Nodup)
    (key : ∀ p ∈ L, IsTupleKey knd s.heap p.2 p.1) (ldd : w.params.followText "set-order" = true ∨ t.led = true) (lt : L.length < 64) {wanted M : Nat} (hw : SetTable.sizeAbove wanted - 1 = M) (hM : MaskOk M) (h2 : SetTable.sizeAbove wanted ≤ 128)
    (rm : L.length * 5 < M * 3) {Q : Unit → Shared → Prop} (hQ : ∀ h' L' es' ep' t', Heap.SameBut a s.heap h' → TSet knd h' a L' es' ep' t' → L'.Perm L → Q () { s with heap := h' }) : wpAny (model P w) A (setRelay a wanted) Q E s := by
  obtain ⟨o, ho, hex, hd⟩ := has
  have n := rw_size row
  have nm : (es.map (·.1)).size = L.length := (Array.size_map ..).trans n
  obtain ⟨t2, order, e, hp, T, m2, l2, _, _⟩ := relaid_ok t (hs := es.map (·.1)) hw hM (by omega)
  rw [nm] at hp
  obtain ⟨L2, r1, r2, r3⟩ := reord row hp
  rw [← r3] at T
  have n2 : (order.filterMap (es[·]?)).size = L.length := (rw_size r1).trans r2.length_eq
  rw [setRelay_eq]
  refine wpAny_bind (wpAny_setState_of ho hd (fit_of sz dm le) (wp_if_neg (by rw [sizeLine_eq]; omega) ?_))
  try refine wpAny_bind (wpAny_pure ?_)
  rw [e]
  refine wpAny_bind (wp_if_neg (by simp [n2, n]) ?_)
  try refine wpAny_bind (wpAny_pure ?_)
  refine wpAny_pure (wpAny_storeSet_of ho hd ?_ (by rw [n2, sizeLine_eq]; omega))
  have sb : Heap.SameBut a s.heap (s.heap.update a (Obj.putSet (order.filterMap (es[·]?)) t2)) := Heap.SameBut.update ..
  exact hQ _ L2 _ (ep + 1) t2 sb ⟨⟨_, store_at ho hd, ⟨hex.1, hex.2.1, hex.2.2⟩, rfl⟩, r1, T, (r2.map Prod.snd).nodup_iff.mpr one, fun p z => tup_same (key p (r2.mem_iff.mp z)) ho hd sb, by rw [l2]; exact ldd, by rw [r2.length_eq, m2]; exact rm, by rw [r2.length_eq]; exact lt⟩ r2
theorem put_in1 (R : TSet knd s.heap a L es ep t) (q : QK knd) {x : Addr} {k : List K} {H : Int} (eH : tupleKeyHash knd k = H) (hx : IsTupleKey knd s.heap k x) (hu : A.units < cLine) (lt : L.length + 1 < 64) {Q : Bool → Shared → Prop}
    (hQ : ∀ b h' L' es' ep' t', Heap.SameBut a s.heap h' → TSet knd h' a L' es' ep' t' → (k ∈ L.map Prod.snd → L' = L) → (k ∉ L.map Prod.snd → L'.Perm ((x, k) :: L)) → Q b { s with heap := h' }) :
    wpAny (model P w) A (setAddHashed a (.ref x) H) Q E s := by
  obtain ⟨o, ho, hex, hd⟩ := R.has
  have n := rw_size R.row
  have room := R.rm
  unfold setAddHashed
  refine wpAny_holding ?_
  rw [show (100000 : Nat) = 99999 + 1 from rfl, setAddHashedIn_succ]
  refine wpAny_bind (wpAny_setState_of ho hd R.fit (wp_if_neg (by simp [byScan, Value.scannable]) ?_))
  try refine wpAny_bind (wpAny_pure ?_)
  refine wpAny_bind (seek_all R q eH hx hu (fun hm => wpAny_pure (hQ false s.heap L es ep t (Heap.SameBut.refl a s.heap) R (fun _ => rfl) fun z => absurd hm z)) fun N hm n2 n3 => ?_)
  refine wpAny_bind (wpAny_setState_of ho hd R.fit ?_)
  obtain ⟨q1, q2, q3, q4, q5, q6, q7, q8, q9⟩ := R.lay.put n2 n3
  dsimp only
  have row2 : (SetTable.insertAt es (t.put (way t.mask H N)).2 (H, Value.ref x)).toList = rwT knd (L.take (t.put (way t.mask H N)).2 ++ (x, k) :: L.drop (t.put (way t.mask H N)).2) := by
    rw [SetTable.toList_insertAt, R.row, rwT, rwT, List.map_append, List.map_cons, List.map_take, List.map_drop, ← eH]
  rw [← q1] at q3
  have hl : (L.take (t.put (way t.mask H N)).2 ++ (x, k) :: L.drop (t.put (way t.mask H N)).2).map (hsT knd) = (L.map (hsT knd)).take (t.put (way t.mask H N)).2 ++ H :: (L.map (hsT knd)).drop (t.put (way t.mask H N)).2 := by
    rw [List.map_append, List.map_cons, List.map_take, List.map_drop, ← eH]
  rw [← hl] at q3
  clear hl q1 q2 q6 q7 q8
  generalize t.put (way t.mask H N) = tp at row2 q3 q4 q5 q9 ⊢
  obtain ⟨t1, pl⟩ := tp
  dsimp only at row2 q3 q4 q5 q9 ⊢
  have pm : (L.take pl ++ (x, k) :: L.drop pl).Perm ((x, k) :: L) := put_perm L pl (x, k)
  generalize L.take pl ++ (x, k) :: L.drop pl = L1 at row2 q3 pm
  generalize SetTable.insertAt es pl (H, Value.ref x) = es1 at row2 ⊢
  have len1 : L1.length = L.length + 1 := pm.length_eq
  have one1 : (L1.map Prod.snd).Nodup := (pm.map Prod.snd).nodup_iff.mpr (List.nodup_cons.mpr ⟨hm, R.one⟩)
  have e1 : es1.size = L.length + 1 := (rw_size row2).trans len1
  have full : t1.fill = L.length + 1 := by rw [q9, List.length_map]
  -- behind the store, whatever of the table's plainness
  have on : ∀ t2 : SetTable, TabOk t2 (L1.map (hsT knd)) → t2.mask = t.mask → t2.led = t.led → t2.fill = L.length + 1 →
      wpAny (model P w) A (do
        storeSet a es1 t2
        if !false && t2.tooFull then setRelay a (SetTable.grown (es.size + 1))
        return true) Q E s := by
    intro t2 T m2 l2 f2
    refine wpAny_bind (wpAny_storeSet_of ho hd ?_ (by rw [e1, sizeLine_eq]; omega))
    have sb : Heap.SameBut a s.heap (s.heap.update a (Obj.putSet es1 t2)) := Heap.SameBut.update ..
    have ho1 := store_at (es' := es1) (t' := t2) ho hd
    generalize s.heap.update a (Obj.putSet es1 t2) = h1 at sb ho1 ⊢
    have key1 : ∀ p ∈ L1, IsTupleKey knd h1 p.2 p.1 := fun p z => by
      cases pm.mem_iff.mp z with
      | head => exact tup_same hx ho hd sb
      | tail _ z => exact tup_same (R.key p z) ho hd sb
    have has1 : ∃ o, h1.get? a = some o ∧ o.ExactSet ∧ o.data = .set es1 (ep + 1) t2 := ⟨_, ho1, ⟨hex.1, hex.2.1, hex.2.2⟩, rfl⟩
    have ld : w.params.followText "set-order" = true ∨ t2.led = true := by rw [l2]; exact R.ldd
    have tf : t2.tooFull = decide ((L.length + 1) * 5 ≥ t.mask * 3) := by unfold SetTable.tooFull; rw [f2, m2]
    by_cases g : (L.length + 1) * 5 ≥ t.mask * 3
    · have two : (t.mask = 7 ∧ L.length = 4) ∨ (t.mask = 31 ∧ L.length = 18) := by
        rcases R.lay.mok with e | e | e
        · exact .inl ⟨e, by omega⟩
        · exact .inr ⟨e, by omega⟩
        · omega
      have go : ∀ M, SetTable.sizeAbove (SetTable.grown (L.length + 1)) - 1 = M → MaskOk M → SetTable.sizeAbove (SetTable.grown (L.length + 1)) ≤ 128 → (L.length + 1) * 5 < M * 3 →
          wpAny (model P w) A (setRelay a (SetTable.grown (es.size + 1))) (fun _ s' => wpAny (model P w) A (pure true) Q E s') E { s with heap := h1 } := fun M g1 g2 g3 g4 => by
        rw [n]
        refine relay (s := { s with heap := h1 }) has1 row2 (T.sz.trans (by rw [List.length_map, len1, e1])) T.dm (by rw [e1, m2]; rcases two with ⟨e, _⟩ | ⟨e, _⟩ <;> omega) one1 key1 ld (by omega) g1 g2 g3 (by rw [len1]; exact g4) fun h2 L2 es2 ep2 t2' sb2 R2 pm2 => ?_
        exact wpAny_pure (hQ true h2 L2 es2 ep2 t2' (sb.trans sb2) R2 (fun z => absurd z hm) fun _ => pm2.trans pm)
      have c : (!false && t2.tooFull) = true := by rw [tf]; simpa using g
      first
        | refine wpAny_bind (wp_if_pos c ?_)
        | refine wp_if_pos c (wpAny_bind ?_)
      rcases two with ⟨_, e⟩ | ⟨_, e⟩
      · exact go 31 (by rw [e, size_20]) (.inr (.inl rfl)) (by rw [e, size_20]; decide) (by omega)
      · exact go 127 (by rw [e, size_76]) (.inr (.inr rfl)) (by rw [e, size_76]; decide) (by omega)
    · have c : ¬ (!false && t2.tooFull) = true := by rw [tf]; simpa using g
      first
        | refine wp_if_neg c ?_
        | refine wpAny_bind (wp_if_neg c (wpAny_pure ?_))
      exact wpAny_pure (hQ true h1 L1 es1 (ep + 1) t2 sb ⟨has1, row2, T, one1, key1, ld, by rw [len1, m2]; omega, by omega⟩ (fun z => absurd z hm) fun _ => pm)
  by_cases pl1 : t1.plain = true
  · first
      | refine wp_if_pos pl1 (wpAny_bind (q_byv q hx fun b => ?_))
      | refine wpAny_bind (wp_if_pos pl1 (q_byv q hx fun b => ?_))
    cases b
    · exact on { t1 with plain := false } ⟨q3.ris, q3.dm, q3.sz, q3.mok, q3.bd, q3.reach⟩ q4 q5 full
    · exact on t1 q3 q4 q5 full
  · first
      | refine wp_if_neg pl1 (wpAny_bind (wpAny_pure ?_))
      | refine wpAny_bind (wp_if_neg pl1 (wpAny_pure ?_))
    exact on t1 q3 q4 q5 full
end
end Kn
namespace Kn
open PySem PySem.Spec PySem.W PyProof.Rows L2
def nubL {α : Type} [DecidableEq α] (xs : List α) : List α := xs.foldl (fun acc x => if x ∈ acc then acc else acc ++ [x]) []
theorem nubL_snoc {α : Type} [DecidableEq α] (xs : List α) (x : α) : nubL (xs ++ [x]) = if x ∈ nubL xs then nubL xs else nubL xs ++ [x] := by
  unfold nubL
  rw [List.foldl_append]
  rfl
theorem mem_nubL {α : Type} [DecidableEq α] {x : α} {xs : List α} : x ∈ nubL xs ↔ x ∈ xs := by
  have key : ∀ n (xs : List α), xs.length = n → (x ∈ nubL xs ↔ x ∈ xs) := by
    intro n
    induction n with
    | zero =>
      intro xs h
      rw [List.eq_nil_of_length_eq_zero h]
      exact Iff.rfl
    | succ n ih =>
      intro xs h
      rcases List.eq_nil_or_concat xs with rfl | ⟨ys, y, rfl⟩ <;> try rw [List.concat_eq_append] at *
      · exact Iff.rfl
      · have i1 := ih ys (by simpa using h)
        rw [nubL_snoc]
        by_cases z : y ∈ nubL ys
        · rw [if_pos z, List.mem_append, List.mem_singleton, i1]
          refine ⟨.inl, fun y1 => y1.elim id fun e => i1.mp (by rw [e]; exact z)⟩
        · rw [if_neg z, List.mem_append, List.mem_append, i1]
  exact key _ xs rfl
theorem nubL_nd {α : Type} [DecidableEq α] (xs : List α) : (nubL xs).Nodup := by
  have key : ∀ n (xs : List α), xs.length = n → (nubL xs).Nodup := by
    intro n
    induction n with
    | zero =>
      intro xs h
      rw [List.eq_nil_of_length_eq_zero h]
      exact List.nodup_nil
    | succ n ih =>
      intro xs h
      rcases List.eq_nil_or_concat xs with rfl | ⟨ys, y, rfl⟩ <;> try rw [List.concat_eq_append] at *
      · exact List.nodup_nil
      · have i1 := ih ys (by simpa using h)
        rw [nubL_snoc]
        by_cases z : y ∈ nubL ys
        · rw [if_pos z]; exact i1
        · rw [if_neg z]
          refine List.nodup_append.mpr ⟨i1, (by simp), fun a ha b hb e => ?_⟩
          rw [List.mem_singleton.mp hb] at e
          rw [e] at ha
          exact z ha
  exact key _ xs rfl
theorem nd_sub_len {α : Type} [DecidableEq α] : ∀ (l m : List α), l.Nodup → (∀ x ∈ l, x ∈ m) → l.length ≤ m.length
  | [], _, _, _ => Nat.zero_le _
  | x :: l, m, h, s => by
    obtain ⟨h1, h2⟩ := List.nodup_cons.mp h
    have mx := s x (.head _)
    have i := nd_sub_len l (m.erase x) h2 fun y z => (List.mem_erase_of_ne fun (e : y = x) => h1 (e ▸ z)).mpr (s y (.tail _ z))
    have e := List.length_erase_of_mem mx
    have := List.length_pos_of_mem mx
    show l.length + 1 ≤ m.length
    omega
theorem nubL_take {α : Type} [DecidableEq α] (xs : List α) (i : Nat) : (nubL (xs.take i)).length ≤ (nubL xs).length :=
  nd_sub_len _ _ (nubL_nd _) fun x h => mem_nubL.mpr (List.mem_of_mem_take (mem_nubL.mp h))
section
variable {K : Type} [DecidableEq K]
def nubP (ks : List (Addr × List K)) : List (Addr × List K) := ks.foldl (fun acc x => if x.2 ∈ acc.map Prod.snd then acc else acc ++ [x]) []
theorem nubP_snoc (ks : List (Addr × List K)) (x : Addr × List K) : nubP (ks ++ [x]) = if x.2 ∈ (nubP ks).map Prod.snd then nubP ks else nubP ks ++ [x] := by
  unfold nubP
  rw [List.foldl_append]
  rfl
theorem nubP_key (ks : List (Addr × List K)) : (nubP ks).map Prod.snd = nubL (ks.map Prod.snd) ∧ ∀ p ∈ nubP ks, p ∈ ks := by
  have key : ∀ n (ks : List (Addr × List K)), ks.length = n → (nubP ks).map Prod.snd = nubL (ks.map Prod.snd) ∧ ∀ p ∈ nubP ks, p ∈ ks := by
    intro n
    induction n with
    | zero =>
      intro ks h
      rw [List.eq_nil_of_length_eq_zero h]
      exact ⟨rfl, fun p z => z⟩
    | succ n ih =>
      intro ks h
      rcases List.eq_nil_or_concat ks with rfl | ⟨ys, y, rfl⟩ <;> try rw [List.concat_eq_append] at *
      · exact ⟨rfl, fun p z => z⟩
      · obtain ⟨i1, i2⟩ := ih ys (by simpa using h)
        rw [nubP_snoc, List.map_append, List.map_cons, List.map_nil, nubL_snoc, ← i1]
        by_cases z : y.2 ∈ (nubP ys).map Prod.snd
        · rw [if_pos z, if_pos z]
          exact ⟨rfl, fun p hp => List.mem_append_left _ (i2 p hp)⟩
        · rw [if_neg z, if_neg z]
          refine ⟨by rw [List.map_append]; rfl, fun p hp => ?_⟩
          rcases List.mem_append.mp hp with hp | hp
          · exact List.mem_append_left _ (i2 p hp)
          · exact List.mem_append_right _ hp
  exact key _ ks rfl
theorem nubP_len (ks : List (Addr × List K)) : (nubP ks).length = (nubL (ks.map Prod.snd)).length := by
  rw [← (nubP_key ks).1, List.length_map]
end
section
variable {P : Program} {w : World} {K : Type} [DecidableEq K] {knd : KeyKind P w K} {A : Around} {E : Value → Shared → Prop} {s : Shared}
theorem tup_keep {h h' : Heap} {k : List K} {b : Addr} (x : IsTupleKey knd h k b) (hk : ∀ c o, h.get? c = some o → h'.get? c = some o) : IsTupleKey knd h' k b := by
  obtain ⟨o, its, n, e, r⟩ := x
  exact ⟨o, its, n, hk b o e, r⟩
theorem TSet.stay {h h' : Heap} {a : Addr} {L : List (Addr × List K)} {es : Array (Int × Value)} {ep : Nat} {t : SetTable} (R : TSet knd h a L es ep t) (ha : ∀ o, h.get? a = some o → h'.get? a = some o) (ht : ∀ p ∈ L, IsTupleKey knd h' p.2 p.1) : TSet knd h' a L es ep t := by
  obtain ⟨o, ho, r⟩ := R.has
  exact ⟨⟨o, ha o ho, r⟩, R.row, R.lay, R.one, ht, R.ldd, R.rm, R.lt⟩
theorem tset_new {h : Heap} {a : Addr} (ho : h.get? a = some (newSet (!w.params.followText "set-order"))) : TSet knd h a [] #[] 0 (.fresh 0 0 (!w.params.followText "set-order")) := by
  refine ⟨⟨_, ho, ⟨rfl, rfl, rfl⟩, rfl⟩, rfl, ⟨.nil, rfl, rfl, .inl rfl, fun x z => (nomatch z), fun i h j z => (nomatch z)⟩, .nil, fun p z => (nomatch z), ?_, ?_, ?_⟩
  · show _ ∨ (!w.params.followText "set-order") = true
    cases w.params.followText "set-order"
    · exact .inr rfl
    · exact .inl rfl
  · show 0 * 5 < 7 * 3
    decide
  · show 0 < 64
    decide
variable {R : Result → Shared → Prop} {J : Addr} {fp wr : List Addr} {Gs : Array GenState → Array GenState → Prop} {n : Nat} {It : Nat → Value → Prop} {Sta : Nat → Shared → Prop}
theorem setT_loop (W : WalksS P w A.in1 J fp wr Gs n It Sta) (D : Addr) (hD : D ∉ fp) (q : QK knd) (ks : List (Addr × List K)) (hx : ks.length = n) (hb : (nubL (ks.map Prod.snd)).length + 1 < 64) (hv : ∀ i v, It i v → ∃ p, ks[i]? = some p ∧ v = .ref p.1)
    (h0 : Heap) (hk : ∀ p ∈ ks, IsTupleKey knd h0 p.2 p.1) (hD0 : h0.get? D = none) (hwr : ∀ b ∈ wr, h0.get? b = none) (hu : A.in1.units < cLine) :
    ∀ (m i : Nat) (s : Shared), n - i = m → i ≤ n → Sta i s → (∀ b o, h0.get? b = some o → s.heap.get? b = some o) → (∃ L es ep t, TSet knd s.heap D L es ep t ∧ L.Perm (nubP (ks.take i))) →
      (∀ s' L es ep t, Moved (D :: wr) Gs s s' → TSet knd s'.heap D L es ep t → L.Perm (nubP ks) → (∀ b o, h0.get? b = some o → s'.heap.get? b = some o) → R (.ok (.ret .none)) s') →
      codeAny (model P w) A (.builtin "set.update.loop" ⟨[.ref D, .ref J], []⟩) R s := by
  have hDw : D ∉ wr := fun z => hD (W.sub _ z)
  have up : ∀ b ∈ wr, b ∈ D :: wr := fun b z => List.mem_cons_of_mem _ z
  have old : ∀ {s s' : Shared}, Moved wr Gs s s' → (∀ b o, h0.get? b = some o → s.heap.get? b = some o) → ∀ b o, h0.get? b = some o → s'.heap.get? b = some o := fun mv k b o e =>
    mv.heap b o (fun z => by rw [hwr b z] at e; exact nomatch e) (k b o e)
  have inks : ∀ {i : Nat} {L : List (Addr × List K)}, L.Perm (nubP (ks.take i)) → ∀ p ∈ L, p ∈ ks := fun pm p z => List.mem_of_mem_take ((nubP_key _).2 p (pm.mem_iff.mp z))
  have stay : ∀ {s s' : Shared} {L : List (Addr × List K)} {es : Array (Int × Value)} {ep : Nat} {t : SetTable} {i : Nat}, Moved wr Gs s s' → (∀ b o, h0.get? b = some o → s'.heap.get? b = some o) → L.Perm (nubP (ks.take i)) → TSet knd s.heap D L es ep t → TSet knd s'.heap D L es ep t :=
    fun mv k pm T => T.stay (fun o e => mv.heap D o hDw e) fun p z => tup_keep (hk p (inks pm p z)) k
  intro m
  induction m with
  | zero =>
    intro i s hm hle st k ⟨L, es, ep, t, T, pm⟩ fin
    have e : i = n := by omega
    subst e
    refine codeAny_builtin F.entry_set_update_loop ?_
    rw [Around.under_plainId F.plain_set_update_loop _]
    refine wpAny_bind (W.done s _ _ st fun s' mv => wpAny_pure (fin s' L es ep t (mv.mono up) (stay mv (old mv k) pm T) ?_ (old mv k)))
    rw [← hx, List.take_length] at pm
    exact pm
  | succ m ih =>
    intro i s hm hle st k ⟨L, es, ep, t, T, pm⟩ fin
    have hlt : i < n := by omega
    refine codeAny_builtin F.entry_set_update_loop ?_
    rw [Around.under_plainId F.plain_set_update_loop _]
    refine wpAny_bind (W.item i s _ _ hlt st fun v s' hit st' mv => ?_)
    obtain ⟨p, hp, rfl⟩ := hv i v hit
    have k1 := old mv k
    have T1 := stay mv k1 pm T
    have hx1 : IsTupleKey knd s'.heap p.2 p.1 := tup_keep (hk p (List.mem_of_getElem? hp)) k1
    have ln : L.length ≤ (nubL (ks.map Prod.snd)).length := by
      rw [pm.length_eq, nubP_len, List.map_take]
      exact nubL_take _ i
    refine wpAny_bind (wpAny_holding ?_)
    unfold setAdd
    refine wpAny_holding (wpAny_bind (wpAny_pyHash_tuple hu hx1 ?_))
    refine put_in1 (s := { s' with toks := s'.toks + (p.2.length + 1) }) T1 q rfl hx1 hu (by omega) fun b h' L' es' ep' t' sb T2 c1 c2 => ?_
    have k2 : ∀ b o, h0.get? b = some o → h'.get? b = some o := fun b o e => (sb.2 b (fun z => by rw [z, hD0] at e; exact nomatch e)).trans (k1 b o e)
    have pm2 : L'.Perm (nubP (ks.take (i + 1))) := by
      rw [take_next hp, nubP_snoc]
      have mm : p.2 ∈ (nubP (ks.take i)).map Prod.snd ↔ p.2 ∈ L.map Prod.snd := (pm.map Prod.snd).mem_iff.symm
      by_cases z : p.2 ∈ L.map Prod.snd
      · rw [if_pos (mm.mpr z), c1 z]; exact pm
      · rw [if_neg fun y => z (mm.mp y)]
        exact (c2 z).trans ((pm.cons p).trans (List.perm_append_singleton p _).symm)
    refine wpAny_pure ⟨plainId_quiet F.plain_set_update_loop _, ih (i + 1) _ (by omega) hlt (W.frame _ s' _ _ st' (Nat.le_add_right _ _) fun b z o e => ?_) k2 ⟨L', es', ep', t', T2, pm2⟩ fun s2 L2 es2 ep2 t2 mv2 T3 pm3 k3 => ?_⟩
    · exact (sb.2 b (fun y => hD (y ▸ z))).trans e
    · refine fin s2 L2 es2 ep2 t2 (Moved.trans W.gtrans ((mv.mono up).then_heap (Nat.le_add_right _ _) fun b o z e => ?_) mv2) T3 pm3 k3
      exact (sb.2 b (fun y => z (y ▸ List.mem_cons_self))).trans e
theorem call_setT {l : Addr} {items : Array Value} (q : QK knd) (ks : List (Addr × List K)) {Q : Value → Shared → Prop} (hh : A.handled = none) (hl : s.heap.IsList l items) (hi : items.toList = ks.map fun p => Value.ref p.1) (hk : ∀ p ∈ ks, IsTupleKey knd s.heap p.2 p.1)
    (hb : (nubL (ks.map Prod.snd)).length + 1 < 64) (hu : A.units + 3 < cLine)
    (h : ∀ (h' : Heap) (tk : Nat) L es ep t, TSet knd h' s.heap.objs.size L es ep t → L.Perm (nubP ks) → (∀ b o, s.heap.get? b = some o → h'.get? b = some o) → Q (.ref s.heap.objs.size) { s with heap := h', toks := tk }) :
    wpAny (model P w) A (call (.type "set") [.ref l]) Q E s := by
  obtain ⟨c, tl, g1⟩ := PySem.F.called_set.mro
  have g2 := PySem.F.called_set.made
  have g3 := PySem.F.called_set.sub
  have g4 := PySem.F.called_set.notType
  have g5 := PySem.F.called_set.canCreate
  have g6 := PySem.F.typeCall_set_1 (.ref l)
  refine wpAny_call (codeAny_of_tree (wpAny_pure ⟨Code.quiet_builtin _ (by decide +kernel), codeAny_builtin PySem.F.entry_type_call ?_⟩))
  rw [Around.under_plain (weight_type_call_type "set" [.ref l] []) rfl]
  repeat (any_goals (first | assumption | wp_step))
  refine codeAny_mono (code_set_led1 (.ref l) (E := E) (Q₁ := fun ob s₁ => ob = .ref s.heap.objs.size ∧ s₁ = { s with heap := s.heap.push (newSet (!w.params.followText "set-order")) }) ⟨rfl, rfl⟩) fun r s₁ hr => ?_
  cases r with
  | error e => exact hr
  | ok fl =>
    cases fl with
    | ret ob =>
      obtain ⟨rfl, rfl⟩ := hr
      have a1 : (s.heap.push (newSet (!w.params.followText "set-order"))).get? s.heap.objs.size = some (newSet (!w.params.followText "set-order")) := Heap.get?_push_size _ rfl
      have a2 : Shared.TypeIs { s with heap := s.heap.push (newSet (!w.params.followText "set-order")) } (.ref s.heap.objs.size) "set" := ⟨_, a1, rfl⟩
      have a3 := PySem.F.called_set.init.lookup
      have a4 := PySem.F.called_set.init.bind (.ref s.heap.objs.size)
      repeat (any_goals (first | assumption | wp_step))
      refine codeAny_mono (codeAny_call_builtin (R := wants (fun r s₂ => r = .none ∧ ∃ h' tk L es ep t, s₂ = { s with heap := h', toks := tk } ∧ TSet knd h' s.heap.objs.size L es ep t ∧ L.Perm (nubP ks) ∧ ∀ b o, s.heap.get? b = some o → h'.get? b = some o) E)
        PySem.F.called_set.init.plain PySem.F.entry_set_init (check_set_init_1 a2 ?_)) fun r₂ s₂ hr₂ => ?_
      · have hlS : l < s.heap.objs.size := by
          obtain ⟨ol, hol, _⟩ := id hl
          exact Heap.lt_size hol
        have hl1 : (s.heap.push (newSet (!w.params.followText "set-order"))).IsList l items := hl.push _
        obtain ⟨ol, hol, hcl, nl, hdl⟩ := id hl1
        obtain ⟨ocls, odict, odata, oslots⟩ := ol
        simp only at hcl hdl
        subst hcl hdl
        have f1 := PySem.F.sub_list_set
        have f2 := PySem.F.sub_list_frozenset
        have f3 : (Value.type "list" == Value.type "dict") = false := by decide
        unfold Builtin.«set.__init__» noKeywords Builtin.Frozenset.updateFrom
        generalize hp : pyIter = it
        wp_walk
        subst hp
        refine wpAny_pyIter_list hl1 (wpAny_bind (wpAny_runValue ?_))
        have hlen : ks.length = items.size := by rw [← Array.length_toList, hi, List.length_map]
        have nI : l ≠ (s.heap.push (newSet (!w.params.followText "set-order"))).objs.size := by
          rw [Heap.size_push]
          exact Nat.ne_of_lt (Nat.lt_succ_of_lt hlS)
        have nD : s.heap.objs.size ∉ [(s.heap.push (newSet (!w.params.followText "set-order"))).objs.size, l] := by
          rw [Heap.size_push]
          simp only [List.mem_cons, List.not_mem_nil, or_false, not_or]
          exact ⟨Nat.ne_of_lt (Nat.lt_succ_self _), Nat.ne_of_gt hlS⟩
        have nothing : ∀ b, s.heap.objs.size ≤ b → s.heap.get? b = none := fun b z => by
          cases e : s.heap.get? b with
          | none => rfl
          | some o => exact absurd (Heap.lt_size e) (Nat.not_lt.mpr z)
        refine setT_loop ((Walks.list (show A.in1.in1.in1.handled = none by simp [hh]) _ l nI items).toS) s.heap.objs.size nD q ks hlen hb (fun i v e => ?_) s.heap hk (nothing _ (Nat.le_refl _)) (fun b z => nothing b ?_) (by have : A.in1.in1.in1.in1.units = _ := rfl; simp only [Around.in1_units]; omega) (items.size - 0) 0 _ (by omega) (Nat.zero_le _)
          ⟨⟨_, Heap.get?_push_size _ rfl, rfl, rfl⟩, hl1.push _⟩ (fun b o e => Heap.get?_push_of_some _ (Heap.get?_push_of_some _ e)) ⟨[], #[], 0, _, tset_new (Heap.get?_push_of_some _ a1), .nil⟩ ?_
        · have z : (ks.map fun p => Value.ref p.1)[i]? = some v := by rw [← hi, Array.getElem?_toList]; exact e
          rw [List.getElem?_map] at z
          obtain ⟨p, e1, e2⟩ := Option.map_eq_some_iff.mp z
          exact ⟨p, e1, e2.symm⟩
        · rw [List.mem_singleton.mp z, Heap.size_push]
          exact Nat.le_succ _
        · intro s' L es ep t mv T pm k'
          obtain ⟨h', g', d', tk', os'⟩ := s'
          obtain rfl : g' = s.gens := mv.gens
          obtain rfl : d' = s.drawn := mv.drawn
          obtain rfl : os' = s.os := mv.os
          exact wpAny_pure (wpAny_pure ⟨rfl, h', tk', L, es, ep, t, rfl, T, pm, k'⟩)
      · cases r₂ with
        | error e => exact hr₂
        | ok fl₂ =>
          cases fl₂ with
          | ret r =>
            obtain ⟨rfl, h', tk, L, es, ep, t, rfl, T, pm, hk'⟩ := hr₂
            repeat (any_goals (first | assumption | wp_step))
            exact h _ _ _ _ _ _ T pm hk'
          | _ => exact hr₂.elim
    | _ => exact hr.elim
end
structure EK {P : Program} {w : World} {K : Type} [DecidableEq K] (knd : KeyKind P w K) (pe : K → PyData) : Prop where
  rd : ∀ {k : K} {v : Value} (h : Heap), knd.is k v = true → Reads h v (pe k) []
  of : ∀ {k : K} {v : Value} {h : Heap} {as : List Addr}, Reads h v (pe k) as → knd.is k v = true
theorem ek_str {P : Program} {w : World} : EK (PySem.strKind P w) PyData.str where
  rd := fun h e => by
    obtain ⟨t, rfl⟩ := Value.isStrOf_shape e
    exact .str _ t
  of := fun r => by
    cases r
    exact strKind_is _ _ _ _
section
variable {P : Program} {w : World} {K : Type} [DecidableEq K] {knd : KeyKind P w K} {pe : K → PyData} {A : Around} {E : Value → Shared → Prop} {s : Shared}
theorem EK.all (e : EK knd pe) {h : Heap} : ∀ {k : List K} {vs : List Value}, ItemsAre knd k vs → ReadsAll h vs (k.map pe) []
  | _, _, .nil => .nil
  | _, _, .cons h1 t => .cons (as := []) (bs := []) (e.rd h h1) (e.all t)
theorem EK.ofAll (e : EK knd pe) {h : Heap} : ∀ {k : List K} {vs : List Value} {as : List Addr}, ReadsAll h vs (k.map pe) as → ItemsAre knd k vs
  | [], _, _, r => by
    cases r
    exact .nil
  | k :: ks, _, _, r => by
    cases r with
    | cons r1 r2 => exact .cons (e.of r1) (e.ofAll r2)
theorem EK.tup (e : EK knd pe) {h : Heap} {k : List K} {a : Addr} (x : IsTupleKey knd h k a) : Reads h (.ref a) (.tuple (k.map pe)) [] := by
  obtain ⟨o, its, n, e1, e2, e3, e4⟩ := x
  exact .tuple e1 e2 e3 (e.all e4)
theorem EK.ofTup (e : EK knd pe) {h : Heap} {k : List K} {v : Value} {as : List Addr} (r : Reads h v (.tuple (k.map pe)) as) : ∃ a, v = .ref a ∧ IsTupleKey knd h k a := by
  cases r with
  | tuple e1 e2 e3 e4 => exact ⟨_, rfl, _, _, _, e1, e2, e3, e.ofAll e4⟩
theorem perm_map_ex {α β : Type} (f : α → β) {vs : List β} {L : List α} (h : vs.Perm (L.map f)) : ∃ L1 : List α, vs = L1.map f ∧ L1.Perm L := by
  have key : ∀ {us vs : List β}, vs.Perm us → ∀ L : List α, us = L.map f → ∃ L1 : List α, vs = L1.map f ∧ L1.Perm L := by
    intro us vs p
    induction p with
    | nil =>
      intro L e
      exact ⟨L, e, .refl _⟩
    | cons x _ ih =>
      intro L e
      cases L with
      | nil => exact nomatch e
      | cons y L =>
        injection e with e1 e2
        obtain ⟨L1, e3, p3⟩ := ih L e2
        exact ⟨y :: L1, by rw [e1, e3]; rfl, p3.cons y⟩
    | swap x y l =>
      intro L e
      match L, e with
      | a :: b :: L, e =>
        injection e with e1 e2
        injection e2 with e2 e3
        exact ⟨b :: a :: L, by rw [e1, e2, e3]; rfl, .swap _ _ _⟩
    | trans _ _ ih1 ih2 =>
      intro L e
      obtain ⟨L1, e1, p1⟩ := ih2 L e
      obtain ⟨L2, e2, p2⟩ := ih1 L1 e1
      exact ⟨L2, e2, p2.trans p1⟩
  exact key h L rfl
theorem sorted_setTp {a : Addr} {L : List (Addr × List K)} {es : Array (Int × Value)} {ep : Nat} {t : SetTable} {Q : Value → Shared → Prop} (R : TSet knd s.heap a L es ep t) (e : EK knd pe) (hh : A.handled = none)
    (al : ∀ x y : List K, alike (PyData.tuple (x.map pe)) (PyData.tuple (y.map pe)) = true) (so : ∀ p ∈ L, p.2 ≠ []) {n : Nat} (dep : ∀ p ∈ L, (PyData.tuple (p.2.map pe)).depth ≤ n) (hu : A.units + n + 8 < cLine) {Rl : Value → List K → Prop} (rl : ∀ p ∈ L, Rl (.ref p.1) p.2)
    (hQ : ∀ s' p (out : Array Value) (c : Nat) (ks : List (List K)), (∀ b o, s.heap.get? b = some o → s'.heap.get? b = some o) → s'.gens = s.gens → s'.os = s.os → s.heap.objs.size ≤ p →
      s'.heap.get? p = some (seqObj "list" out c) → ks.Perm (L.map Prod.snd) → EachIs Rl out.toList (srtD (fun x : List K => PyData.tuple (x.map pe)) ks) → Q (.ref p) s') :
    wpAny (model P w) A (call (.builtin "sorted") [.ref a]) Q E s := by
  obtain ⟨o, ho, hex, hd⟩ := R.has
  have n1 := rw_size R.row
  have few := R.lt
  refine Calls.call_function_entry kind_sorted plain_sorted entry_sorted (args_sorted1 _) ?_
  unfold Builtin.«sorted»
  refine wpAny_bind (m := checkCount "sorted" 1 1 _) (wpAny_pure ?_)
  refine wpAny_bind (collect_set (A := A.in1) hh ⟨o, ho, hex.1, hd⟩ R.fit (by unfold scanBound; omega) R.lay.ris R.ldd fun s1 vs k1 hz g1 o1' pm => ?_)
  have ev : es.toList.map (·.2) = L.map fun p => Value.ref p.1 := by
    rw [R.row, rwT, List.map_map]
    rfl
  rw [ev] at pm
  obtain ⟨L1, rfl, pL⟩ := perm_map_ex _ pm
  have l1 : L1.length = L.length := pL.length_eq
  refine wpAny_bind (wpAny_newList ?_ (by rw [List.length_map, sizeLine_eq]; omega))
  have hoL : (s1.heap.push (seqObj "list" (L1.map fun p => Value.ref p.1).toArray 0)).get? s1.heap.objs.size = some (seqObj "list" (L1.map fun p => Value.ref p.1).toArray 0) := Heap.get?_push_size _ rfl
  have each : ∀ {T : Value → List K → Prop} (l : List (Addr × List K)), (∀ p ∈ l, T (.ref p.1) p.2) → EachIs T (l.map fun p => Value.ref p.1) (l.map Prod.snd) := by
    intro T l
    induction l with
    | nil => exact fun _ => .nil
    | cons p l ih => exact fun z => .cons (z p (.head _)) (ih fun p' y => z p' (.tail _ y))
  have mL : ∀ p ∈ L1, p ∈ L := fun p z => pL.mem_iff.mp z
  have er := each (T := fun v b => ∃ as, Reads (s1.heap.push (seqObj "list" (L1.map fun p => Value.ref p.1).toArray 0)) v (PyData.tuple (b.map pe)) as ∧ s1.heap.objs.size ∉ as) L1 fun p z =>
    ⟨[], e.tup (tup_keep (R.key p (mL p z)) fun b u y => Heap.get?_push_of_some _ (k1 b u y)), fun y => nomatch y⟩
  refine wpAny_bind (wpAny_holding (PySem.W.list_sort_data (s := { s1 with heap := s1.heap.push (seqObj "list" (L1.map fun p => Value.ref p.1).toArray 0) }) (enc := fun x : List K => PyData.tuple (x.map pe)) hoL (each L1 fun p z => rl p (mL p z)) er
    (PySem.W.AllAlike.of al) (.inl fun d hd => ?so) (by rw [List.length_map, sizeLine_eq]; omega) (fun b hb => ?_) fun out lo eo => ?_))
  case so =>
    obtain ⟨b, hb, rfl⟩ := List.mem_map.mp hd
    obtain ⟨p, hp, rfl⟩ := List.mem_map.mp hb
    have z := so p (mL p hp)
    cases e2 : p.2 with
    | nil => exact absurd e2 z
    | cons x r => exact ⟨_, _, rfl⟩
  · obtain ⟨p, hp, rfl⟩ := List.mem_map.mp hb
    have := dep p (mL p hp)
    simp only [Around.in1_units]
    omega
  · obtain ⟨c, hc⟩ := sortedHeap_at (vs := L1.map fun p => Value.ref p.1) (out := List.toArray out) hoL
    refine wpAny_pure ⟨_, rfl, hQ _ s1.heap.objs.size (List.toArray out) c (L1.map Prod.snd) (fun b u y => ?_) g1 o1' hz hc (pL.map _) eo⟩
    have y1 := k1 b u y
    have lt := Heap.lt_size y1
    show (sortedHeap (s1.heap.push (seqObj "list" (L1.map fun p => Value.ref p.1).toArray 0)) s1.heap.objs.size _ (List.toArray out)).get? b = some u
    rw [sortedHeap_old (Nat.ne_of_lt lt) (by rw [size_push']; exact Nat.lt_succ_of_lt lt)]
    exact Heap.get?_push_of_some _ y1
end
end Kn
namespace Kn
open PySem PySem.Spec PySem.W PyProof.Rows L2
abbrev pVt (x : List Str) : PyData := .tuple (x.map PyData.str)
def srtSetT (xs : List (List Str)) : List (List Str) := srtD pVt (nubL xs)
theorem mem_srtSetT {xs : List (List Str)} {x : List Str} : x ∈ srtSetT xs ↔ x ∈ xs := mem_srt.trans mem_nubL
theorem nd_srtSetT (xs : List (List Str)) : (srtSetT xs).Nodup := srt_perm.nodup_iff.mpr (nubL_nd xs)
theorem ti_Vt : TI pVt := ti_vtup ti_str
theorem ks_of {P : Program} {w : World} {h : Heap} {Rl : Value → List Str → Prop} : ∀ {its : List Value} {xs : List (List Str)}, EachIs (fun v b => Rl v b ∧ ∃ as, Reads h v (pVt b) as) its xs →
    ∃ ks : List (Addr × List Str), its = ks.map (fun q => Value.ref q.1) ∧ ks.map Prod.snd = xs ∧ ∀ q ∈ ks, IsTupleKey (PySem.strKind P w) h q.2 q.1 ∧ Rl (.ref q.1) q.2
  | _, _, .nil => ⟨[], rfl, rfl, fun _ z => nomatch z⟩
  | _, _, .cons (b := b) h1 t => by
    obtain ⟨ks, e1, e2, e3⟩ := ks_of (P := P) (w := w) t
    obtain ⟨r1, as, r2⟩ := h1
    obtain ⟨a, rfl, k1⟩ := (ek_str (P := P) (w := w)).ofTup r2
    refine ⟨(a, b) :: ks, by rw [e1]; rfl, by rw [List.map_cons, e2], fun q z => ?_⟩
    cases z with
    | head => exact ⟨k1, r1⟩
    | tail _ z => exact e3 q z
section
variable {G : Cfg} {C : Sc} {Γ : Fr} {O : Own} {a b c e : Expr} {p1 p2 p3 pos : Pos}
theorem en_sortSetT [Calm C] {xs : List (List Str)} {f : List Str → D} {n : Nat} (t : Dat G.K f pVt n) (hn : n ≤ 50) (hne : ∀ x ∈ xs, x ≠ []) (hb : (nubL xs).length + 1 < 64) (g1 : Glo C "sorted") (m1 : G.mg "sorted" = none) (g2 : Glo C "set") (m2 : G.mg "set" = none) (ha : E G C a Γ O (dLst G.K (xs.map f)))
    (hs : ∀ env, starEach [a] env = (false, eval a env) :: starEach [] env) : EN G C (.Call (.Name "sorted" p1) [.Call (.Name "set" p2) [a] [] p3] [] pos) Γ O (oLst ((srtSetT xs).map f)) := .mk fun X c F σ H hh Q q => by
  intro pins s I
  refine Call_ (ld_blt I (c.gl g1) (by rw [c.mg]; exact m1) (by rfl) ?_)
  refine callWith_builtin1 (args_cons ?_ rfl) rfl rfl
  refine Call_ (ld_blt I (c.gl g2) (by rw [c.mg]; exact m2) boot_set ?_)
  refine callWith_type1 (args_cons (thn (ha.go c hh I) fun v s1 ⟨u, F1, H1, I1, r1, e1, h1, d1⟩ => args_nil ?_) (hs X.env)) (hs X.env) rfl
  obtain ⟨l, vs, rfl, hl, hal⟩ := d1
  cases r1
  have hsq : SqL X.K H1 l vs := by rw [c.K]; exact gw_l h1.ho.ex hl.sq
  obtain ⟨its, r, pl, _⟩ := I1.list hsq
  have t' : Dat X.K f pVt n := by rw [c.K]; exact t
  have each : EachIs (fun v b => (∃ x, RelV x v ∧ (f b).ok F1 x) ∧ ∃ as, Reads s1.heap v (pVt b) as) its xs := (each_of hal r).mono fun v b z => ⟨z, by
    obtain ⟨x, z1, z2⟩ := z
    exact Dp.reads I1 (pVt b) x v (t'.ok b F1 H1 x h1.ho.ex z2) z1⟩
  obtain ⟨ks, k1, k2, k3⟩ := ks_of (P := X.prog) (w := X.w) each
  have un := c.un
  refine call_setT qk_str ks (I1.ok.hd c.cm) pl.isList (by simpa using k1) (fun q z => (k3 q z).1) (by rw [k2]; exact hb) (by omega) fun h' tk L es ep tb T pm hk => args_nil ?_
  have I2 : L2.Inv X pins σ H1 { s1 with heap := h', toks := tk } := I1.kept hk
  have inks : ∀ q ∈ L, q ∈ ks := fun q z => (nubP_key ks).2 q (pm.mem_iff.mp z)
  refine sorted_setTp (Rl := fun v b => ∃ x, RelV x v ∧ (f b).ok F1 x) T ek_str (I2.ok.hd c.cm) (fun x y => alike_strs x y) (fun q z => hne q.2 (by rw [← k2]; exact List.mem_map.mpr ⟨q, inks q z, rfl⟩)) (n := n) (fun q z => t.dep q.2) (by omega) (fun q z => (k3 q (inks q z)).2) fun s2 p out cc zs y1 y2 y3 y4 y5 y6 y7 => ?_
  have e9 : srtD pVt zs = srtSetT xs := srt_as ti_Vt (y6.trans (by
    have z := pm.map Prod.snd
    rw [(nubP_key ks).1, k2] at z
    exact z))
  rw [show (fun x : List Str => PyData.tuple (x.map PyData.str)) = pVt from rfl, e9] at y7
  have y8 := y7.length
  obtain ⟨ws, rv, dz⟩ := of_each y7
  have lw : ws.length ≤ sizeLine := by
    have z := rv.length
    have z2 : (srtSetT xs).length = (nubL xs).length := srt_len
    rw [sizeLine_eq]
    omega
  obtain ⟨hp2, gn2, dr2, tk2, os2⟩ := s2
  obtain rfl : gn2 = s1.gens := y2
  obtain rfl : os2 = s1.os := y3
  have ok : ObjOk X.prog X.w (upd H1 p (.lst ws)) hp2 p (.lst ws) := ⟨lw, out.toList, cc, rv, by simpa using y5⟩
  have hf : H1 p = none := I2.hok.fresh y4
  have I3 : L2.Inv X pins σ (upd H1 p (.lst ws)) ⟨hp2, s1.gens, dr2, tk2, s1.os⟩ := L2.Inv.call (s := { s1 with heap := h', toks := tk }) (ch := []) I2 (Un.laid y1 y4 hf) (I2.hok.laid y1 y4 ok) I2.bare (fun _ z => nomatch z)
  exact ⟨.ref p, _, I3, rfl, q F1 _ p e1 ⟨h1.fr, h1.ho.own hf ⟨_, rfl, dz⟩⟩⟩
end
end Kn
namespace Kn
open PySem PySem.Spec L2
def top (i : Nat) : Stmt := PySem.Challenge.pw_knewby_k64_hops_traced.main.body.getD i (.Pass ⟨0, 0, 0, 0⟩)
def K_KEPT_WORDS : List Str := ["person", "talk", "saw", "knew", "heard", "told", "not", "nobody", "never", "by", "from", "to"]
def K_LETTERS : Str := "abcdefghijklmnopqrstuvwxyz"
end Kn
namespace Kn
open PySem PySem.Spec L2
def hdFa0 : List He.Fa := [.glo "_law_mix", .glo "_law_names", .glo "_law_hour", .glo "_law_sights", .glo "_law_talks", .glo "_law_habits", .glo "is_name", .glo "are_persons", .glo "is_tuple_of", .glo "is_whole", .glo "is_hour", .glo "is_tale", .glo "is_sight", .glo "are_all", .glo "are_two", .glo "is_talk", .glo "is_saying", .glo "greater_floor", .glo "floors", .glo "spans_of", .glo "bars_of", .glo "is_above", .glo "is_within", .glo "open_tellings", .glo "timed_tellings", .glo "as_told", .glo "heard_by", .glo "open_sights", .glo "earliest_versions", .glo "traced"]
def hdFa1 : List He.Fa := [.glo "_law_floor", .glo "_law_seen", .glo "_law_shut", .glo "_law_open", .glo "_law_told", .glo "_law_hops", .glo "_law_saying", .glo "_law_cell_at", .glo "_law_traced", .glo "_law_right", .glo "law", .glo "Book", .cls "Book", .meth "Book" "sights", .meth "Book" "talks", .meth "Book" "persons", .meth "Book" "sayings", .meth "Book" "tellings", .mkr "Book", .noat "Book" "claims", .noat "Book" "crew", .noat "Book" "meetings", .noat "Book" "views", .free "bool", .free "dict", .free "enumerate", .free "int", .free "isinstance", .free "len", .free "list"]
def hdFa2 : List He.Fa := [.free "max", .free "min", .free "range", .free "reversed", .free "set", .free "sorted", .free "str", .free "sum", .free "tuple", .glo "KEPT_WORDS", .int "LAST_HOUR" 1000000000000000000, .str "LETTERS" K_LETTERS, .int "LONGEST" 12, .int "MOST_PERSONS" 24, .int "MOST_SAYINGS" 60, .int "MOST_SIGHTS" 24, .int "MOST_TALKS" 120, .int "MOST_VERSIONS" 400, .int "MOST_WORDS" 6]
def hdFa : List He.Fa := hdFa0 ++ hdFa1 ++ hdFa2
def hdFn0 : List He.DefD := [⟨("_law_mix", none), "_law_mix", "_law_mix", defArgs (top 47), defBody (top 47), defScope (top 47), [], []⟩, ⟨("_law_names", none), "_law_names", "_law_names", defArgs (top 48), defBody (top 48), defScope (top 48), [], []⟩, ⟨("_law_hour", none), "_law_hour", "_law_hour", defArgs (top 49), defBody (top 49), defScope (top 49), [], []⟩, ⟨("_law_sights", none), "_law_sights", "_law_sights", defArgs (top 58), defBody (top 58), defScope (top 58), [], []⟩, ⟨("_law_talks", none), "_law_talks", "_law_talks", defArgs (top 50), defBody (top 50), defScope (top 50), [], []⟩, ⟨("_law_habits", none), "_law_habits", "_law_habits", defArgs (top 57), defBody (top 57), defScope (top 57), [], []⟩, ⟨("is_name", none), "is_name", "is_name", defArgs (top 29), defBody (top 29), defScope (top 29), [], []⟩, ⟨("are_persons", none), "are_persons", "are_persons", defArgs (top 37), defBody (top 37), defScope (top 37), [], []⟩, ⟨("is_tuple_of", none), "is_tuple_of", "is_tuple_of", defArgs (top 36), defBody (top 36), defScope (top 36), [], []⟩, ⟨("is_whole", none), "is_whole", "is_whole", defArgs (top 27), defBody (top 27), defScope (top 27), [], []⟩, ⟨("is_hour", none), "is_hour", "is_hour", defArgs (top 28), defBody (top 28), defScope (top 28), [], []⟩, ⟨("is_tale", none), "is_tale", "is_tale", defArgs (top 38), defBody (top 38), defScope (top 38), [], []⟩, ⟨("is_sight", none), "is_sight", "is_sight", defArgs (top 39), defBody (top 39), defScope (top 39), [], []⟩, ⟨("are_all", none), "are_all", "are_all", defArgs (top 43), defBody (top 43), defScope (top 43), [], []⟩, ⟨("are_two", none), "are_two", "are_two", defArgs (top 40), defBody (top 40), defScope (top 40), [], []⟩, ⟨("is_talk", none), "is_talk", "is_talk", defArgs (top 41), defBody (top 41), defScope (top 41), [], []⟩, ⟨("is_saying", none), "is_saying", "is_saying", defArgs (top 42), defBody (top 42), defScope (top 42), [], []⟩, ⟨("greater_floor", none), "greater_floor", "greater_floor", defArgs (top 2), defBody (top 2), defScope (top 2), [], []⟩, ⟨("floors", none), "floors", "floors", defArgs (top 3), defBody (top 3), defScope (top 3), [], []⟩, ⟨("spans_of", none), "spans_of", "spans_of", defArgs (top 6), defBody (top 6), defScope (top 6), [], []⟩]
def hdFn1 : List He.DefD := [⟨("bars_of", none), "bars_of", "bars_of", defArgs (top 7), defBody (top 7), defScope (top 7), [], []⟩, ⟨("is_above", none), "is_above", "is_above", defArgs (top 4), defBody (top 4), defScope (top 4), [], []⟩, ⟨("is_within", none), "is_within", "is_within", defArgs (top 8), defBody (top 8), defScope (top 8), [], []⟩, ⟨("open_tellings", none), "open_tellings", "open_tellings", defArgs (top 9), defBody (top 9), defScope (top 9), [], []⟩, ⟨("timed_tellings", none), "timed_tellings", "timed_tellings", defArgs (top 18), defBody (top 18), defScope (top 18), [], []⟩, ⟨("as_told", none), "as_told", "as_told", defArgs (top 15), defBody (top 15), defScope (top 15), [], []⟩, ⟨("heard_by", none), "heard_by", "heard_by", defArgs (top 19), defBody (top 19), defScope (top 19), [], []⟩, ⟨("open_sights", none), "open_sights", "open_sights", defArgs (top 5), defBody (top 5), defScope (top 5), [], []⟩, ⟨("earliest_versions", none), "earliest_versions", "earliest_versions", defArgs (top 20), defBody (top 20), defScope (top 20), [], []⟩, ⟨("traced", none), "traced", "traced", defArgs (top 21), defBody (top 21), defScope (top 21), [], []⟩, ⟨("_law_floor", none), "_law_floor", "_law_floor", defArgs (top 52), defBody (top 52), defScope (top 52), [], []⟩, ⟨("_law_seen", none), "_law_seen", "_law_seen", defArgs (top 55), defBody (top 55), defScope (top 55), [], []⟩, ⟨("_law_shut", none), "_law_shut", "_law_shut", defArgs (top 53), defBody (top 53), defScope (top 53), [], []⟩, ⟨("_law_open", none), "_law_open", "_law_open", defArgs (top 54), defBody (top 54), defScope (top 54), [], []⟩, ⟨("_law_told", none), "_law_told", "_law_told", defArgs (top 56), defBody (top 56), defScope (top 56), [], []⟩, ⟨("_law_hops", none), "_law_hops", "_law_hops", defArgs (top 59), defBody (top 59), defScope (top 59), [], []⟩, ⟨("_law_saying", none), "_law_saying", "_law_saying", defArgs (top 51), defBody (top 51), defScope (top 51), [], []⟩, ⟨("_law_cell_at", none), "_law_cell_at", "_law_cell_at", defArgs (top 46), defBody (top 46), defScope (top 46), [], []⟩, ⟨("_law_traced", none), "_law_traced", "_law_traced", defArgs (top 60), defBody (top 60), defScope (top 60), [], []⟩, ⟨("_law_right", none), "_law_right", "_law_right", defArgs (top 61), defBody (top 61), defScope (top 61), [], []⟩]
def hdFn2 : List He.DefD := [⟨("law", none), "law", "law", defArgs (top 62), defBody (top 62), defScope (top 62), [], []⟩, ⟨("Book", some "sights"), "sights", "Book.sights", defArgs (inClass (top 44) 2), defBody (inClass (top 44) 2), defScope (inClass (top 44) 2), [], []⟩, ⟨("Book", some "talks"), "talks", "Book.talks", defArgs (inClass (top 44) 3), defBody (inClass (top 44) 3), defScope (inClass (top 44) 3), [], []⟩, ⟨("Book", some "persons"), "persons", "Book.persons", defArgs (inClass (top 44) 1), defBody (inClass (top 44) 1), defScope (inClass (top 44) 1), [], []⟩, ⟨("Book", some "sayings"), "sayings", "Book.sayings", defArgs (inClass (top 44) 4), defBody (inClass (top 44) 4), defScope (inClass (top 44) 4), [], []⟩, ⟨("Book", some "tellings"), "tellings", "Book.tellings", defArgs (inClass (top 44) 9), defBody (inClass (top 44) 9), defScope (inClass (top 44) 9), [], []⟩, ⟨("Book", some "__init__"), "__init__", "Book.__init__", defArgs (inClass (top 44) 0), defBody (inClass (top 44) 0), defScope (inClass (top 44) 0), [], []⟩]
def hdFn : List He.DefD := hdFn0 ++ hdFn1 ++ hdFn2
def hdEx (K : PySem.W.Frag) : Bool := He.tupB K "KEPT_WORDS" (K_KEPT_WORDS.map He.Dv.str)
abbrev HdR : PySem.W.OpenRow := PySem.W.OpenLaw.row PySem.Challenge.rw_knewby_k64_hops_traced
abbrev hdHk : PySem.W.Hook := hookTt 5 [] hdFa hdFn hdEx
def hdOb (s : PySem.W.SharedT) : AlM := obsTt 5 [] hdFa hdFn hdEx (HandSHeadRun.getT s)
theorem hdOb_eq (s : PySem.W.SharedT) : hdOb s = hdHk.obs s.abs := obsTt_eq (HandSHeadRun.getT_eq s)
def hdL0 : List Str := ["_wall", "greater_floor", "floors", "is_above", "open_sights", "spans_of", "bars_of", "is_within", "open_tellings", "KnewError", "NoBook", "TooMuch", "as_told", "MOST_VERSIONS", "timed_tellings", "heard_by", "traced", "LETTERS", "KEPT_WORDS", "LONGEST", "LAST_HOUR", "is_whole", "is_hour", "is_name", "MOST_PERSONS", "MOST_SIGHTS", "MOST_TALKS", "MOST_SAYINGS", "MOST_WORDS", "is_tuple_of"]
def hdL1 : List Str := ["are_persons", "is_tale", "is_sight", "are_two", "is_talk", "is_saying", "are_all", "Book", "_law_cell_at", "_law_mix", "_law_names", "_law_hour", "_law_talks", "_law_saying", "_law_floor", "_law_shut", "_law_open", "_law_seen", "_law_told", "_law_habits", "_law_sights", "_law_hops", "_law_traced", "_law_right"]
def hdLoose : List Str := hdL0 ++ hdL1
theorem hd_run (w : World) : HandSHeadRun.RunEq HdR (PySem.W.view HdR.prog [20, 62]) hdHk hdOb 8000 hdLoose w := by
  intro os
  kernel_rfl
end Kn
namespace Kn
open PySem PySem.Spec L2
def m_L_mix (a_cell : Int) (a_k : Int) : Int :=
  lt (((a_cell % (1000000007 : Int)) + (((31 : Int) * a_k) * a_k)) + (1 : Int)) fun some_1 =>
  ((((some_1 * some_1) % (2147483629 : Int)) * (a_k + (7 : Int))) % (2147483647 : Int))
theorem empty_len : ("" : Str).length = 0 := by decide +kernel
theorem inR_bi {b : Bool} : inR 2 (bi b) := by cases b <;> (show _ ∧ _; decide)
theorem mix_sq {k : Int} (h : 0 ≤ k ∧ k ≤ 100000) : 0 ≤ 31 * k * k ∧ 31 * k * k ≤ 310000000000 := by
  have h1 : 0 ≤ k * k := Int.mul_nonneg h.1 h.1
  have h2 : k * k ≤ 100000 * 100000 := Int.mul_le_mul h.2 h.2 h.1 (by decide)
  rw [Int.mul_assoc]
  omega
instance decHopL : DecidableEq (Int × (Int × Str × Str × List Str) × List Str) := @instDecidableEqProd _ _ inferInstance (@instDecidableEqProd _ _ (@instDecidableEqProd _ _ inferInstance inferInstance) inferInstance)
def m_L_names (a_cell : Int) (a_many : Int) : (List Str) :=
  lt ("bcdfghjklmnpqrstvwxz" : Str) fun letters_1 =>
  lt ((1 : Int) + (a_cell % (12 : Int))) fun size_2 =>
  lt ((a_cell / (12 : Int)) % size_2) fun at_3 =>
  lt ((upto a_many).foldl (fun (s_6 : (List Str)) (x_7 : Int) =>
    lt ("" : Str) fun name_15 =>
    lt ((upto size_2).foldl (fun (s_16 : Str) (x_17 : Int) =>
      lt ((x_17 * x_17) + (((3 : Int) * x_7) * (bi (decide (x_17 = at_3))))) fun step_25 =>
      lt (s_16 ++ (signAt letters_1 (((a_cell / (144 : Int)) + step_25) % (20 : Int)))) fun name_26 =>
      name_26) name_15) fun (s_16 : Str) =>
    lt (s_6 ++ [s_16]) fun names_here_27 =>
    names_here_27) ([] : List Str)) fun (s_6 : (List Str)) =>
  s_6
theorem names61_len (c m : Int) : (m_L_names c m).length = m.toNat := by
  unfold m_L_names
  simp only [lt]
  refine (foldl_measE (m := fun s : List Str => s.length) (c := 1) (fun s x => ?_)).trans ?_
  · rw [List.length_append]; rfl
  · rw [upto_len]
    have e : ([] : List Str).length = 0 := rfl
    omega
def HabOk (h : List (Str × List (Str × Str))) : Prop := ∀ p, ((dFind h p).getD []).length ≤ 20
def m_L_hour (a_cell : Int) (a_far : Int) : Int :=
  (nth ([(a_cell % (12 : Int)), (((a_cell % (12 : Int)) * (1000000000000000 : Int)) + (7 : Int)), ((1000000000000000000 : Int) - (a_cell % (9 : Int)))]) a_far)
def m_L_sights (a_cell : Int) (a_persons : (List Str)) (a_words : (List Str)) (a_far : Int) : (List (Str × Int × (List Str))) :=
  lt ((upto ((1 : Int) + (a_cell % (3 : Int)))).foldl (fun (s_3 : (List (Str × Int × (List Str)))) (x_4 : Int) =>
    lt (m_L_mix a_cell ((20 : Int) + x_4)) fun some_12 =>
    lt ((upto ((1 : Int) + (some_12 % (2 : Int)))).map fun e_13 => (nth a_words ((m_L_mix some_12 e_13) % (3 : Int)))) fun tale_16 =>
    lt (s_3 ++ [((nth a_persons ((some_12 / (3 : Int)) % (a_persons.length : Int))), (m_L_hour (m_L_mix some_12 (9 : Int)) a_far), tale_16)]) fun sights_here_17 =>
    sights_here_17) ([] : List (Str × Int × (List Str)))) fun (s_3 : (List (Str × Int × (List Str)))) =>
  s_3
def m_L_talks (a_cells : (List Int)) (a_persons : (List Str)) (a_far : Int) : (List (Int × Str × Str × Str)) :=
  lt (a_cells.foldl (fun (s_3 : (List (Int × Str × Str × Str))) (x_4 : Int) =>
    lt (nth a_persons ((m_L_mix x_4 (1 : Int)) % (a_persons.length : Int))) fun one_12 =>
    lt (nth a_persons ((((idxS a_persons one_12) + (1 : Int)) + ((m_L_mix x_4 (2 : Int)) % ((a_persons.length : Int) - (1 : Int)))) % (a_persons.length : Int))) fun two_13 =>
    lt (s_3 ++ [((m_L_hour (m_L_mix x_4 (3 : Int)) a_far), one_12, two_13, (nth ([("both" : Str), ("one" : Str)]) ((m_L_mix x_4 (4 : Int)) % (2 : Int))))]) fun talks_here_14 =>
    talks_here_14) ([] : List (Int × Str × Str × Str))) fun (s_3 : (List (Int × Str × Str × Str))) =>
  s_3
def m_L_habits (a_cell : Int) (a_persons : (List Str)) (a_words : (List Str)) : (List (Str × (List (Str × Str)))) :=
  lt ((enumL a_persons).foldl (fun (s_3 : (List (Str × (List (Str × Str))))) (x_4 : (Int × Str)) =>
    lt (m_L_mix a_cell ((50 : Int) + x_4.1)) fun some_12 =>
    (if (decide ((0 : Int) < (some_12 % (4 : Int)))) then
      lt (cut a_words none (some ((some_12 / (4 : Int)) % ((a_words.length : Int) + (1 : Int))))) fun firsts_14 =>
      lt (dPut s_3 x_4.2 ((enumL firsts_14).map fun e_15 => (e_15.2, (nth a_words ((m_L_mix some_12 e_15.1) % (a_words.length : Int)))))) fun habits_here_18 =>
      habits_here_18
    else
      s_3)) ([] : (List (Str × (List (Str × Str)))))) fun (s_3 : (List (Str × (List (Str × Str))))) =>
  s_3
def m_P_is_name (a_thing : Va) : Bool :=
  (if ((!(isA "str" a_thing)) || ((!((decide ((1 : Int) ≤ (a_thing.asS.length : Int))) && (decide ((a_thing.asS.length : Int) ≤ (12 : Int))))) || (decide (a_thing.asS ∈ K_KEPT_WORDS)))) then
    false
  else
  lp (loopL (R := Bool) (fun (s_5 : Unit) (x_6 : Str) =>
    (if (!hasSign K_LETTERS x_6) then
      (Ret.rt false)
    else
      (Ret.nx ()))) (signs a_thing.asS) ()) fun (s_5 : Unit) =>
  true)
def m_P_are_persons (a_thing : (List Str)) : Bool :=
  (if ((!true) || (!((decide ((1 : Int) ≤ (a_thing.length : Int))) && (decide ((a_thing.length : Int) ≤ (24 : Int)))))) then
    false
  else
  lp (loopL (R := Bool) (fun (s_4 : Unit) (x_5 : Str) =>
    (if (!(m_P_is_name (Va.str x_5))) then
      (Ret.rt false)
    else
      (Ret.nx ()))) a_thing ()) fun (s_4 : Unit) =>
  (decide (((nubS a_thing).length : Int) = (a_thing.length : Int))))
def m_P_is_tuple_of (a_thing : Va) (a_many : Int) : Bool :=
  ((isA "tuple" a_thing) && (decide ((a_thing.asT.length : Int) = a_many)))
def m_P_is_whole (a_thing : Va) : Bool :=
  ((isA "int" a_thing) && (!(isA "bool" a_thing)))
theorem whole_isA {x : Va} (h : m_P_is_whole x = true) : isA "int" x = true ∧ isA "bool" x = false := ⟨andL h, notT (andR h)⟩
def m_P_is_hour (a_thing : Va) : Bool :=
  ((m_P_is_whole a_thing) && ((decide ((0 : Int) ≤ a_thing.asI)) && (decide (a_thing.asI ≤ (1000000000000000000 : Int)))))
def m_P_is_tale (a_thing : (List Str)) : Bool :=
  (if ((!true) || (!((decide ((1 : Int) ≤ (a_thing.length : Int))) && (decide ((a_thing.length : Int) ≤ (6 : Int)))))) then
    false
  else
  lp (loopL (R := Bool) (fun (s_4 : Unit) (x_5 : Str) =>
    (if (!(m_P_is_name (Va.str x_5))) then
      (Ret.rt false)
    else
      (Ret.nx ()))) a_thing ()) fun (s_4 : Unit) =>
  true)
def m_P_is_sight (a_thing : (Str × Int × (List Str))) (a_persons : (List Str)) : Bool :=
  (if (!(m_P_is_tuple_of ((fun x : (Str × Int × (List Str)) => Va.tup [Va.str x.1, Va.int x.2.1, (fun xs : (List Str) => Va.tup (xs.map Va.str)) x.2.2]) a_thing) (3 : Int))) then
    false
  else
  ((decide (a_thing.1 ∈ a_persons)) && ((m_P_is_hour (Va.int a_thing.2.1)) && (m_P_is_tale a_thing.2.2))))
def m_P_are_all_at_is_sight (a_thing : (List (Str × Int × (List Str)))) (a_most : Int) (a_persons : (List Str)) : Bool :=
  (if ((!true) || (decide (a_most < (a_thing.length : Int)))) then
    false
  else
  lp (loopL (R := Bool) (fun (s_4 : Unit) (x_5 : (Str × Int × (List Str))) =>
    (if (!(m_P_is_sight x_5 a_persons)) then
      (Ret.rt false)
    else
      (Ret.nx ()))) a_thing ()) fun (s_4 : Unit) =>
  true)
def m_P_are_two (a_one : Str) (a_other : Str) (a_persons : (List Str)) : Bool :=
  ((decide (a_one ∈ a_persons)) && ((decide (a_other ∈ a_persons)) && (!decide (a_one = a_other))))
def m_P_is_talk (a_thing : (Int × Str × Str × Str)) (a_persons : (List Str)) : Bool :=
  (if (!(m_P_is_tuple_of ((fun x : (Int × Str × Str × Str) => Va.tup [Va.int x.1, Va.str x.2.1, Va.str x.2.2.1, Va.str x.2.2.2]) a_thing) (4 : Int))) then
    false
  else
  ((m_P_is_hour (Va.int a_thing.1)) && ((m_P_are_two a_thing.2.1 a_thing.2.2.1 a_persons) && (decide (a_thing.2.2.2 ∈ [("both" : Str), ("one" : Str)])))))
def m_P_are_all_at_is_talk (a_thing : (List (Int × Str × Str × Str))) (a_most : Int) (a_persons : (List Str)) : Bool :=
  (if ((!true) || (decide (a_most < (a_thing.length : Int)))) then
    false
  else
  lp (loopL (R := Bool) (fun (s_4 : Unit) (x_5 : (Int × Str × Str × Str)) =>
    (if (!(m_P_is_talk x_5 a_persons)) then
      (Ret.rt false)
    else
      (Ret.nx ()))) a_thing ()) fun (s_4 : Unit) =>
  true)
def m_P_is_saying (a_thing : Sy) (a_persons : (List Str)) : Bool :=
  (if ((!true) || ((decide (a_thing.len < (3 : Int))) || (!decide (a_thing.who ∈ a_persons)))) then
    false
  else
  (if (decide (a_thing.kd = ("silent" : Str))) then
    ((decide (a_thing.len = (4 : Int))) && ((m_P_is_hour (Va.int a_thing.h1)) && ((m_P_is_hour (Va.int a_thing.h2)) && (decide (a_thing.h1 ≤ a_thing.h2)))))
  else
  (if (!decide (a_thing.len = (3 : Int))) then
    false
  else
  (if (decide (a_thing.kd = ("knew" : Str))) then
    (m_P_is_hour (Va.int a_thing.h1))
  else
  (if (decide (a_thing.kd = ("unheard" : Str))) then
    ((a_thing.ho.isNone) || (m_P_is_hour ((vaO Va.int) a_thing.ho)))
  else
  ((decide (a_thing.kd = ("barred" : Str))) && (m_P_are_two a_thing.who a_thing.other a_persons)))))))
def m_P_are_all_at_is_saying (a_thing : (List Sy)) (a_most : Int) (a_persons : (List Str)) : Bool :=
  (if ((!true) || (decide (a_most < (a_thing.length : Int)))) then
    false
  else
  lp (loopL (R := Bool) (fun (s_4 : Unit) (x_5 : Sy) =>
    (if (!(m_P_is_saying x_5 a_persons)) then
      (Ret.rt false)
    else
      (Ret.nx ()))) a_thing ()) fun (s_4 : Unit) =>
  true)
def goodBook (p : List Str) (s : List Sight) (t : List Talk) (y : List Sy) : Prop := m_P_are_persons p = true ∧ m_P_are_all_at_is_sight s 24 p = true ∧ m_P_are_all_at_is_talk t 120 p = true ∧ m_P_are_all_at_is_saying y 60 p = true
theorem imin_leM {a b : Int} : imin a b ≤ a ∧ imin a b ≤ b ∧ (imin a b = a ∨ imin a b = b) := by unfold imin; split <;> omega
theorem imax_leM {a b : Int} : a ≤ imax a b ∧ b ≤ imax a b ∧ (imax a b = a ∨ imax a b = b) := by unfold imax; split <;> omega
theorem hour_iff (i : Int) : m_P_is_hour (Va.int i) = (decide (0 ≤ i) && decide (i ≤ 1000000000000000000)) := by
  unfold m_P_is_hour m_P_is_whole
  have e : (Va.int i).asI = i := rfl
  have e1 : isA "int" (Va.int i) = true := rfl
  have e2 : isA "bool" (Va.int i) = false := rfl
  rw [e, e1, e2]
  rfl
structure NamesOk (l : List Str) : Prop where
  nd : l.Nodup
  ok : ∀ t ∈ l, m_P_is_name (Va.str t) = true
theorem good_persons {l : List Str} (h : NamesOk l) (h1 : 1 ≤ l.length ∧ l.length ≤ 24) : m_P_are_persons l = true := by
  have ha : l.all (fun x => m_P_is_name (Va.str x)) = true := List.all_eq_true.mpr h.ok
  unfold m_P_are_persons
  rw [loop_all (fun x => m_P_is_name (Va.str x)), ha, decide_eq_true (show (1 : Int) ≤ (l.length : Int) by omega), decide_eq_true (show (l.length : Int) ≤ 24 by omega), nub_nodup h.nd, decide_eq_true rfl]
  rfl
theorem tup_of3 (s : Sight) : m_P_is_tuple_of ((fun x : Sight => Va.tup [Va.str x.1, Va.int x.2.1, (fun xs => Va.tup (List.map Va.str xs)) x.2.2]) s) 3 = true := rfl
theorem tup_of4 (s : Talk) : m_P_is_tuple_of ((fun x : Talk => Va.tup [Va.int x.1, Va.str x.2.1, Va.str x.2.2.1, Va.str x.2.2.2]) s) 4 = true := rfl
theorem two_of {p : List Str} (nd : p.Nodup) {n r : Int} (hp : 1 < p.length) (hr : 0 ≤ r ∧ r < (p.length : Int) - 1) : m_P_are_two (nth p (n % (p.length : Int))) (nth p ((n % (p.length : Int) + 1 + r) % (p.length : Int))) p = true := by
  have h1 : inR p.length (n % (p.length : Int)) := inR_mod (by omega)
  have h2 : inR p.length ((n % (p.length : Int) + 1 + r) % (p.length : Int)) := inR_mod (by omega)
  have hne : nth p (n % (p.length : Int)) ≠ nth p ((n % (p.length : Int) + 1 + r) % (p.length : Int)) := fun e => by
    have := nth_inj nd ⟨Int.emod_nonneg _ (by omega), Int.emod_lt_of_pos _ (by omega)⟩ ⟨Int.emod_nonneg _ (by omega), Int.emod_lt_of_pos _ (by omega)⟩ e
    exact mod_step hr (by omega) this.symm
  unfold m_P_are_two
  rw [decide_eq_true (nth_mem h1), decide_eq_true (nth_mem h2), decide_eq_false hne]
  rfl
theorem talk_true {p : List Str} {h : Int} {a b w : Str} (hh : m_P_is_hour (Va.int h) = true) (h2 : m_P_are_two a b p = true) (hw : w ∈ [("both" : Str), ("one" : Str)]) : m_P_is_talk (h, a, b, w) p = true := by
  unfold m_P_is_talk
  rw [tup_of4, hh, h2, decide_eq_true hw]
  rfl
theorem n_ks : ¬ ("knew" : Str) = ("silent" : Str) := by decide +kernel
theorem n_us : ¬ ("unheard" : Str) = ("silent" : Str) := by decide +kernel
theorem n_uk : ¬ ("unheard" : Str) = ("knew" : Str) := by decide +kernel
theorem n_bs : ¬ ("barred" : Str) = ("silent" : Str) := by decide +kernel
theorem n_bk : ¬ ("barred" : Str) = ("knew" : Str) := by decide +kernel
theorem n_bu : ¬ ("barred" : Str) = ("unheard" : Str) := by decide +kernel
theorem n_kb : ¬ ("knew" : Str) = ("barred" : Str) := by decide +kernel
theorem n_ub : ¬ ("unheard" : Str) = ("barred" : Str) := by decide +kernel
theorem n_sb : ¬ ("silent" : Str) = ("barred" : Str) := by decide +kernel
theorem say_knew {p : List Str} {w : Str} {h : Int} (hw : w ∈ p) (hh : m_P_is_hour (Va.int h) = true) : m_P_is_saying (.knew w h) p = true := by
  unfold m_P_is_saying
  simp [Sy.len, Sy.who, Sy.kd, Sy.h1, n_ks, hh, hw]
theorem say_unheard {p : List Str} {w : Str} {h : Option Int} (hw : w ∈ p) (hh : ∀ i, h = some i → m_P_is_hour (Va.int i) = true) : m_P_is_saying (.unheard w h) p = true := by
  unfold m_P_is_saying
  cases h with
  | none => simp [Sy.len, Sy.who, Sy.kd, Sy.ho, n_us, n_uk, hw]
  | some i => simp [Sy.len, Sy.who, Sy.kd, Sy.ho, n_us, n_uk, hw, vaO, hh i rfl]
theorem say_silent {p : List Str} {w : Str} {a b : Int} (hw : w ∈ p) (ha : m_P_is_hour (Va.int a) = true) (hb : m_P_is_hour (Va.int b) = true) (hab : a ≤ b) : m_P_is_saying (.silent w a b) p = true := by
  unfold m_P_is_saying
  simp [Sy.len, Sy.who, Sy.kd, Sy.h1, Sy.h2, hw, ha, hb, hab]
theorem say_barred {p : List Str} {w v : Str} (hw : w ∈ p) (h2 : m_P_are_two w v p = true) : m_P_is_saying (.barred w v) p = true := by
  unfold m_P_is_saying
  simp [Sy.len, Sy.who, Sy.kd, Sy.other, n_bs, n_bk, n_bu, hw, h2]
theorem say_who {s : Sy} {p : List Str} (h : m_P_is_saying s p = true) : s.who ∈ p := by
  unfold m_P_is_saying at h
  by_cases hw : s.who ∈ p
  · exact hw
  · rw [decide_eq_false hw] at h
    simp at h
def m_P_Book (a_persons : (List Str)) (a_sights : (List (Str × Int × (List Str)))) (a_talks : (List (Int × Str × Str × Str))) (a_sayings : (List Sy)) : BookV :=
  ⟨a_persons, a_sights, a_talks, a_sayings⟩
theorem nodup_of_nub : ∀ {xs : List Str}, (nubS xs).length = xs.length → xs.Nodup := by
  have go : ∀ (n : Nat) (ys : List Str), ys.length = n → (nubS ys).length = ys.length → ys.Nodup := by
    intro n
    induction n with
    | zero =>
      intro ys h _
      rw [List.length_eq_zero_iff.mp h]
      exact List.nodup_nil
    | succ n ih =>
      intro ys h e
      have hne : ys ≠ [] := fun z => by rw [z] at h; cases h
      have ec := List.dropLast_concat_getLast hne
      have hl : ys.dropLast.length = n := by rw [List.length_dropLast, h]; rfl
      have hb := nub_len ys.dropLast
      rw [← ec, nub_snoc] at e
      by_cases hm : ys.getLast hne ∈ nubS ys.dropLast
      · rw [if_pos hm, List.length_append] at e
        simp only [List.length_cons, List.length_nil] at e
        omega
      · rw [if_neg hm, List.length_append, List.length_append] at e
        have h1 := ih _ hl (by omega)
        rw [← ec]
        refine List.nodup_append.mpr ⟨h1, List.nodup_cons.mpr ⟨fun z => (nomatch z), List.nodup_nil⟩, fun a ha b hb2 z => ?_⟩
        rw [List.mem_singleton] at hb2
        rw [z, hb2] at ha
        exact hm (mem_nub.mpr ha)
  exact fun {xs} h => go _ xs rfl h
theorem lp_all {α : Type} {xs : List α} {c q : Bool} {f : α → Bool} (h : (if c = true then false else lp (if xs.all f = true then Ret.nx () else Ret.rt false) fun _ : Unit => q) = true) : c = false ∧ (∀ x ∈ xs, f x = true) ∧ q = true := by
  cases c with
  | true => cases h
  | false =>
    rw [if_neg Bool.false_ne_true] at h
    by_cases ha : xs.all f = true
    · rw [if_pos ha] at h
      exact ⟨rfl, List.all_eq_true.mp ha, h⟩
    · rw [if_neg ha] at h
      cases h
structure BkOk (b : BookV) : Prop where
  who : ∀ s ∈ b.claims, s.who ∈ b.crew
  see : ∀ x ∈ b.views, x.1 ∈ b.crew
  tk : ∀ x ∈ b.meetings, x.2.1 ∈ b.crew ∧ x.2.2.1 ∈ b.crew
  lc : b.crew.length ≤ 24
  lv : b.views.length ≤ 24
  lm : b.meetings.length ≤ 120
  ly : b.claims.length ≤ 60
  nd : b.crew.Nodup
theorem talk_two {x : Talk} {p : List Str} (h : m_P_is_talk x p = true) : x.2.1 ∈ p ∧ x.2.2.1 ∈ p := by
  unfold m_P_is_talk at h
  rw [tup_of4] at h
  unfold m_P_are_two at h
  simp only [Bool.not_true, Bool.false_eq_true, if_false, Bool.and_eq_true, decide_eq_true_eq] at h
  exact ⟨h.2.1.1, h.2.1.2.1⟩
theorem sight_who {x : Sight} {p : List Str} (h : m_P_is_sight x p = true) : x.1 ∈ p := by
  unfold m_P_is_sight at h
  rw [tup_of3] at h
  simp only [Bool.not_true, Bool.false_eq_true, if_false, Bool.and_eq_true, decide_eq_true_eq] at h
  exact h.1
theorem bk_of {p : List Str} {s : List Sight} {t : List Talk} {y : List Sy} (h : goodBook p s t y) : BkOk (m_P_Book p s t y) := by
  obtain ⟨h1, h2, h3, h4⟩ := h
  unfold m_P_are_persons at h1
  rw [loop_all (fun x => m_P_is_name (Va.str x))] at h1
  obtain ⟨a1, _, a3⟩ := lp_all h1
  unfold m_P_are_all_at_is_sight at h2
  rw [loop_all (fun x => m_P_is_sight x p)] at h2
  obtain ⟨b1, b2, _⟩ := lp_all h2
  unfold m_P_are_all_at_is_talk at h3
  rw [loop_all (fun x => m_P_is_talk x p)] at h3
  obtain ⟨c1, c2, _⟩ := lp_all h3
  unfold m_P_are_all_at_is_saying at h4
  rw [loop_all (fun x => m_P_is_saying x p)] at h4
  obtain ⟨d1, d2, _⟩ := lp_all h4
  simp only [Bool.not_true, Bool.false_or, Bool.not_eq_false', Bool.and_eq_true, decide_eq_true_eq, decide_eq_false_iff_not] at a1 a3 b1 c1 d1
  exact ⟨fun x hx => say_who (d2 x hx), fun x hx => sight_who (b2 x hx), fun x hx => talk_two (c2 x hx), (by show p.length ≤ 24; omega), (by show s.length ≤ 24; omega), (by show t.length ≤ 120; omega), (by show y.length ≤ 60; omega), (show p.Nodup from nodup_of_nub (by omega))⟩
def m_P_Book_sights (a_self : BookV) : (List (Str × Int × (List Str))) :=
  a_self.views
def m_P_Book_talks (a_self : BookV) : (List (Int × Str × Str × Str)) :=
  a_self.meetings
def m_P_Book_persons (a_self : BookV) : (List Str) :=
  a_self.crew
def m_P_Book_sayings (a_self : BookV) : (List Sy) :=
  a_self.claims
def m_P_greater_floor (a_one : (Option Int)) (a_other : (Option Int)) : (Option Int) :=
  (if ((a_one.isNone) || (a_other.isNone)) then
    (none : (Option Int))
  else
  (some (imax (a_one.getD default) (a_other.getD default))))
def m_P_floors (a_book : BookV) : (List (Str × (Option Int))) :=
  lt ((m_P_Book_persons a_book).foldl (fun (s_3 : (List (Str × (Option Int)))) (x_4 : Str) =>
    lt (dPut s_3 x_4 (some (-(1 : Int)))) fun found_12 =>
    found_12) ([] : (List (Str × (Option Int))))) fun (s_3 : (List (Str × (Option Int)))) =>
  lt ((m_P_Book_sayings a_book).foldl (fun (s_13 : (List (Str × (Option Int)))) (x_14 : Sy) =>
    (if (decide (x_14.kd = ("unheard" : Str))) then
      lt (dPut s_13 x_14.who (m_P_greater_floor (dGet s_13 x_14.who) x_14.ho)) fun found_23 =>
      found_23
    else
      s_13)) s_3) fun (s_13 : (List (Str × (Option Int)))) =>
  s_13
theorem floors_has {crew : List Str} {s0 s1 : List (Str × Option Int)} {pre : List Sy} (h1 : s1 = pre.foldl (fun s x => if decide (x.kd = ("unheard" : Str)) = true then lt (dPut s x.who (m_P_greater_floor (dGet s x.who) x.ho)) fun y => y else s) s0) (h0 : s0 = crew.foldl (fun s x => lt (dPut s x (some (-1))) fun y => y) []) : ∀ p ∈ crew, dHas s1 p = true := by
  intro p hp
  rw [h1]
  refine foldl_keep (P := fun s => dHas s p = true) (fun s x h => ?_) ?_
  · split
    · simp only [lt]
      rw [has_put, h, Bool.or_true]
    · exact h
  · rw [h0]
    exact put_has (.inl hp)
theorem floors_len {crew : List Str} {s0 : List (Str × Option Int)} (h0 : s0 = crew.foldl (fun s x => lt (dPut s x (some (-1))) fun y => y) []) : s0.length ≤ crew.length := by
  rw [h0]
  have h := foldl_meas (m := fun l : List (Str × Option Int) => l.length) (c := 1) (f := fun s x => lt (dPut s x (some (-1))) fun y => y) (fun _ _ => dPut_len) (xs := crew) (s0 := [])
  have e : ([] : List (Str × Option Int)).length = 0 := rfl
  omega
theorem floors_mem {b : BookV} {p : Str} (h : p ∈ b.crew) : dHas (m_P_floors b) p = true := floors_has (crew := b.crew) rfl rfl p h
def m_P_spans_of (a_book : BookV) : (List (Str × (List (Int × Int)))) :=
  lt ((m_P_Book_sayings a_book).foldl (fun (s_3 : (List (Str × List (Int × Int)))) (x_4 : Sy) =>
    (if (decide (x_4.kd = ("silent" : Str))) then
      (dApp s_3 x_4.who (x_4.h1, x_4.h2))
    else
      s_3)) ([] : (List (Str × List (Int × Int))))) fun (s_3 : (List (Str × List (Int × Int)))) =>
  s_3
def m_P_bars_of (a_book : BookV) : (List ((Str × Str) × Bool)) :=
  lt ((m_P_Book_sayings a_book).foldl (fun (s_3 : (List ((Str × Str) × Bool))) (x_4 : Sy) =>
    (if (decide (x_4.kd = ("barred" : Str))) then
      lt (dPut s_3 (x_4.who, x_4.other) true) fun found_13 =>
      found_13
    else
      s_3)) ([] : (List ((Str × Str) × Bool)))) fun (s_3 : (List ((Str × Str) × Bool))) =>
  s_3
def m_P_Book_tellings (a_self : BookV) : (List (Int × Str × Str)) :=
  lt ((enumL a_self.meetings).foldl (fun (s_3 : (List (Int × Str × Str))) (x_4 : (Int × (Int × Str × Str × Str))) =>
    lt (s_3 ++ [(x_4.1, x_4.2.2.1, x_4.2.2.2.1)]) fun found_12 =>
    (if (decide (x_4.2.2.2.2 = ("both" : Str))) then
      lt (found_12 ++ [(x_4.1, x_4.2.2.2.1, x_4.2.2.1)]) fun found_14 =>
      found_14
    else
      found_12)) ([] : List (Int × Str × Str))) fun (s_3 : (List (Int × Str × Str))) =>
  s_3
theorem tellings_len {b : BookV} (h : BkOk b) : (m_P_Book_tellings b).length ≤ 240 := by
  unfold m_P_Book_tellings
  simp only [lt]
  refine Nat.le_trans (foldl_meas (m := fun l : List (Int × Str × Str) => l.length) (c := 2) (fun s x => ?_)) ?_
  · split
    · simp only [List.length_append, List.length_cons, List.length_nil]; omega
    · simp only [List.length_append, List.length_cons, List.length_nil]; omega
  · rw [enumL_len]
    have := h.lm
    have e : ([] : List (Int × Str × Str)).length = 0 := rfl
    omega
theorem enum_upto {α : Type} [Inhabited α] {xs : List α} : enumL xs = (upto (xs.length : Int)).map fun k => (k, nth xs k) := by
  refine List.ext_getElem? fun i => ?_
  unfold enumL upto
  rw [enumF_at, List.map_map, List.getElem?_map]
  by_cases h : i < xs.length
  · rw [List.getElem?_range (by omega), List.getElem?_eq_getElem h]
    simp only [Option.map_some, Function.comp_def, Nat.zero_add]
    rw [nth_nat (by omega) (by omega)]
    simp
  · rw [List.getElem?_eq_none (by omega), List.getElem?_eq_none (by rw [List.length_range]; omega)]
    rfl
theorem nth_in {α : Type} [Inhabited α] {xs : List α} {k : Int} (h : k ∈ upto (xs.length : Int)) : nth xs k ∈ xs := by
  have := mem_upto h
  exact nth_mem (by show _ ≤ _ ∧ _ < _; omega)
theorem loop_any {α R : Type} (t : α → Bool) (r : R) : ∀ xs : List α, loopL (R := R) (fun (_ : Unit) (x : α) => if t x = true then Ret.rt r else Ret.nx ()) xs () = if xs.any t = true then Ret.rt r else Ret.nx ()
  | [] => by simp only [loopL, List.any_nil, Bool.false_eq_true, if_false]
  | x :: xs => by
    have ih := loop_any t r xs
    rw [List.any_cons, loopL]
    cases h : t x with
    | true => simp only [Bool.true_or, if_true]
    | false =>
      simp only [Bool.false_or, Bool.false_eq_true, if_false]
      exact ih
theorem lp_any {α : Type} (t : α → Bool) (xs : List α) : (lp (loopL (R := Bool) (fun (_ : Unit) (x : α) => if t x = true then Ret.rt true else Ret.nx ()) xs ()) fun _ : Unit => false) = xs.any t := by
  rw [loop_any]
  cases h : xs.any t with
  | true => rfl
  | false => rfl
theorem foldl_fm {α β : Type} {p : α → Bool} {g : α → β} : ∀ {xs : List α} {s0 : List β}, xs.foldl (fun s x => if p x = true then s ++ [g x] else s) s0 = s0 ++ (xs.filter p).map g
  | [], s0 => by simp
  | x :: xs, s0 => by
    rw [List.foldl_cons, foldl_fm, List.filter_cons]
    cases p x with
    | true => simp
    | false => simp
theorem any_orB {α : Type} {p q : α → Bool} : ∀ {xs : List α}, (xs.any fun x => p x || q x) = (xs.any p || xs.any q)
  | [] => rfl
  | x :: xs => by
    rw [List.any_cons, List.any_cons, List.any_cons, any_orB]
    cases p x <;> cases q x <;> cases xs.any p <;> rfl
theorem foldl_keepF {α β : Type} {f : List β → α → List β} {g : α → List β} : ∀ {xs : List α} {s0 : List β}, (∀ s x, x ∈ xs → f s x = s ++ g x) → xs.foldl f s0 = s0 ++ xs.flatMap g
  | [], s0, _ => by simp
  | x :: xs, s0, h => by
    rw [List.foldl_cons, h _ _ List.mem_cons_self, foldl_keepF (fun s y hy => h s y (List.mem_cons_of_mem _ hy)), List.flatMap_cons, List.append_assoc]
def telOf (q : Int × Talk) : List (Int × Str × Str) := if decide (q.2.2.2.2 = ("both" : Str)) = true then [(q.1, q.2.2.1, q.2.2.2.1), (q.1, q.2.2.2.1, q.2.2.1)] else [(q.1, q.2.2.1, q.2.2.2.1)]
theorem tel_fold {xs : List (Int × Talk)} {s0 : List (Int × Str × Str)} : xs.foldl (fun s x => if decide (x.2.2.2.2 = ("both" : Str)) = true then (s ++ [(x.1, x.2.2.1, x.2.2.2.1)]) ++ [(x.1, x.2.2.2.1, x.2.2.1)] else s ++ [(x.1, x.2.2.1, x.2.2.2.1)]) s0 = s0 ++ xs.flatMap telOf := by
  rw [← foldl_app]
  congr 1
  funext s x
  unfold telOf
  split
  · rw [List.append_assoc]; rfl
  · rfl
theorem tell_form (b : BookV) : m_P_Book_tellings b = (enumL b.meetings).flatMap telOf := by
  unfold m_P_Book_tellings
  simp only [lt]
  exact tel_fold
theorem tel_mem {b : BookV} (h : BkOk b) (x : Int × Str × Str) (hx : x ∈ m_P_Book_tellings b) : inR b.meetings.length x.1 ∧ x.2.1 ∈ b.crew ∧ x.2.2 ∈ b.crew := by
  rw [tell_form] at hx
  obtain ⟨q, hq, hx⟩ := List.mem_flatMap.mp hx
  have hm := mem_enum hq
  have ht := h.tk _ hm.2.2
  have hr : inR b.meetings.length q.1 := by show _ ≤ _ ∧ _ < _; omega
  unfold telOf at hx
  split at hx
  · rcases List.mem_cons.mp hx with rfl | hx
    · exact ⟨hr, ht.1, ht.2⟩
    · rcases List.mem_cons.mp hx with rfl | hx
      · exact ⟨hr, ht.2, ht.1⟩
      · cases hx
  · rcases List.mem_cons.mp hx with rfl | hx
    · exact ⟨hr, ht.1, ht.2⟩
    · cases hx
def m_P_is_above (a_hour : Int) (a_floor : (Option Int)) : Bool :=
  ((!a_floor.isNone) && (decide ((a_floor.getD default) < a_hour)))
def m_P_is_within (a_hour : Int) (a_spans : (List (Int × Int))) : Bool :=
  lp (loopL (R := Bool) (fun (s_1 : Unit) (x_2 : (Int × Int)) =>
    (if ((decide (x_2.1 ≤ a_hour)) && (decide (a_hour ≤ x_2.2))) then
      (Ret.rt true)
    else
      (Ret.nx ()))) a_spans ()) fun (s_1 : Unit) =>
  false
def m_P_open_tellings (a_book : BookV) : (List (Int × Str × Str)) :=
  lt (m_P_floors a_book) fun known_1 =>
  lt (m_P_spans_of a_book) fun quiet_2 =>
  lt (m_P_bars_of a_book) fun barred_3 =>
  lt (m_P_Book_talks a_book) fun talks_4 =>
  lt ((m_P_Book_tellings a_book).foldl (fun (s_7 : (List (Int × Str × Str))) (x_8 : (Int × Str × Str)) =>
    lt ((nth talks_4 x_8.1).1) fun hour_16 =>
    (if ((m_P_is_above hour_16 (dGet known_1 x_8.2.2)) && (!dHas barred_3 (x_8.2.2, x_8.2.1))) then
      (if (!(m_P_is_within hour_16 ((dFind quiet_2 x_8.2.1).getD ([] : List (Int × Int))))) then
        lt (s_7 ++ [(x_8.1, x_8.2.1, x_8.2.2)]) fun found_21 =>
        found_21
      else
        s_7)
    else
      s_7)) ([] : List (Int × Str × Str))) fun (s_7 : (List (Int × Str × Str))) =>
  s_7
theorem opent_len {b : BookV} (h : BkOk b) : (m_P_open_tellings b).length ≤ 240 := by
  unfold m_P_open_tellings
  simp only [lt]
  refine Nat.le_trans (foldl_meas (m := fun l : List (Int × Str × Str) => l.length) (c := 1) (fun s x => ?_)) ?_
  · (repeat' split) <;> (try simp only [List.length_append, List.length_cons, List.length_nil]) <;> omega
  · have e : ([] : List (Int × Str × Str)).length = 0 := rfl
    have := tellings_len h
    omega
theorem opent_sub {b : BookV} : ∀ q ∈ m_P_open_tellings b, q ∈ m_P_Book_tellings b := by
  unfold m_P_open_tellings
  simp only [lt]
  refine foldl_keepM (P := fun s : List (Int × Str × Str) => ∀ q ∈ s, q ∈ m_P_Book_tellings b) (fun s x hx h => ?_) (fun q hq => nomatch hq)
  (repeat' split)
  · intro q hq
    rcases List.mem_append.mp hq with hq | hq
    · exact h q hq
    · rw [List.mem_singleton.mp hq]; exact hx
  · exact h
  · exact h
theorem opent_in {b : BookV} (h : BkOk b) : ∀ q ∈ m_P_open_tellings b, inR b.meetings.length q.1 := fun q hq => (tel_mem h q (opent_sub q hq)).1
def m_P_timed_tellings (a_book : BookV) : (List (Int × Int × Str × Str)) :=
  lt (m_P_Book_talks a_book) fun talks_1 =>
  lt ((m_P_open_tellings a_book).map fun e_2 => ((nth talks_1 e_2.1).1, e_2.1, e_2.2.1, e_2.2.2)) fun found_5 =>
  (srtD (fun x : (Int × Int × Str × Str) => PyData.tuple [PyData.int x.1, PyData.int x.2.1, PyData.str x.2.2.1, PyData.str x.2.2.2]) found_5)
def m_P_as_told (a_habits : (List (Str × (List (Str × Str))))) (a_person : Str) (a_tale : (List Str)) : (List Str) :=
  lt (ofPairs ((dFind a_habits a_person).getD ([] : List (Str × Str)))) fun others_1 =>
  (a_tale.map fun e_2 => ((dFind others_1 e_2).getD e_2))
def m_P_heard_by (a_known : (List ((Str × (List Str)) × Int))) (a_habits : (List (Str × (List (Str × Str))))) (a_step : (Int × Int × Str × Str)) : (List ((List Str) × (List Str))) :=
  lt (lt (a_known.foldl (fun (s_5 : (List ((List Str) × (List Str)))) (x_6 : ((Str × (List Str)) × Int)) =>
      (if ((decide (x_6.1.1 = a_step.2.2.1)) && (decide (x_6.2 < a_step.1))) then
        lt (s_5 ++ [(x_6.1.2, (m_P_as_told a_habits a_step.2.2.1 x_6.1.2))]) fun found_17 =>
        found_17
      else
        s_5)) ([] : List ((List Str) × (List Str)))) fun (s_5 : (List ((List Str) × (List Str)))) =>
    s_5) fun (s_21 : (List ((List Str) × (List Str)))) =>
  s_21
theorem kys_put {κ α : Type} [DecidableEq κ] {kvs : List (κ × α)} {k : κ} {y : α} : kys (dPut kvs k y) = if dHas kvs k = true then kys kvs else kys kvs ++ [k] := by
  unfold dPut
  split
  · unfold kys
    rw [List.map_map]
    refine List.map_congr_left fun q _ => ?_
    show (if q.1 = k then (q.1, y) else q).1 = q.1
    split <;> rfl
  · unfold kys
    rw [List.map_append]
    rfl
theorem sub_len {α : Type} [DecidableEq α] : ∀ {l m : List α}, l.Nodup → (∀ x ∈ l, x ∈ m) → l.length ≤ m.length
  | [], _, _, _ => Nat.zero_le _
  | x :: l, m, h, hs => by
    have h1 := List.nodup_cons.mp h
    have h2 := sub_len (l := l) (m := m.erase x) h1.2 (fun y hy => (List.mem_erase_of_ne (fun e : y = x => h1.1 (by rw [← e]; exact hy))).mpr (hs y (List.mem_cons_of_mem _ hy)))
    rw [List.length_erase_of_mem (hs x List.mem_cons_self)] at h2
    have := List.length_pos_of_mem (hs x List.mem_cons_self)
    rw [List.length_cons]
    omega
theorem kys_nd {κ α : Type} [DecidableEq κ] {kvs : List (κ × α)} {k : κ} {y : α} (h : (kys kvs).Nodup) : (kys (dPut kvs k y)).Nodup := by
  rw [kys_put]
  split
  · exact h
  · rename_i hn
    refine List.nodup_append.mpr ⟨h, List.nodup_cons.mpr ⟨fun z => (nomatch z), List.nodup_nil⟩, fun a ha b hb z => ?_⟩
    rw [List.mem_singleton.mp hb] at z
    rw [z] at ha
    exact hn (mem_kys.mp ha)
abbrev Hab62 := List (Str × List (Str × Str))
abbrev Ver62 := List ((Str × List Str) × Int)
structure VInv (P : List Str) (T : List (List Str)) (kvs : Ver62) : Prop where
  nd : (kys kvs).Nodup
  inn : ∀ k ∈ kys kvs, k.1 ∈ P ∧ k.2 ∈ T
theorem vinv_nil {P : List Str} {T : List (List Str)} : VInv P T [] := ⟨List.nodup_nil, fun _ h => nomatch h⟩
theorem prod_len {α β : Type} {T : List β} : ∀ {P : List α}, (P.flatMap fun p => T.map fun t => (p, t)).length = P.length * T.length
  | [] => by simp
  | p :: P => by
    rw [List.flatMap_cons, List.length_append, prod_len, List.length_map, List.length_cons, Nat.succ_mul, Nat.add_comm]
theorem vinv_len {P : List Str} {T : List (List Str)} {kvs : Ver62} (h : VInv P T kvs) : kvs.length ≤ P.length * T.length := by
  have a := sub_len (m := P.flatMap fun p => T.map fun t => (p, t)) h.nd fun k hk => by
    obtain ⟨h1, h2⟩ := h.inn k hk
    exact List.mem_flatMap.mpr ⟨k.1, h1, List.mem_map.mpr ⟨k.2, h2, rfl⟩⟩
  rw [prod_len] at a
  unfold kys at a
  rw [List.length_map] at a
  exact a
theorem kys_setd {κ α : Type} [DecidableEq κ] {kvs : List (κ × α)} {k : κ} {y : α} : kys (dSetd kvs k y) = if dHas kvs k = true then kys kvs else kys kvs ++ [k] := by
  unfold dSetd
  split
  · rfl
  · unfold kys
    rw [List.map_append]
    rfl
theorem vinv_put {P : List Str} {T : List (List Str)} {kvs : Ver62} {k : Str × List Str} {y : Int} (h : VInv P T kvs) (h1 : k.1 ∈ P) (h2 : k.2 ∈ T) : VInv P T (dPut kvs k y) := ⟨kys_nd h.nd, fun x hx => by
  rw [kys_put] at hx
  split at hx
  · exact h.inn x hx
  · rcases List.mem_append.mp hx with hx | hx
    · exact h.inn x hx
    · rw [List.mem_singleton.mp hx]; exact ⟨h1, h2⟩⟩
theorem vinv_setd {P : List Str} {T : List (List Str)} {kvs : Ver62} {k : Str × List Str} {y : Int} (h : VInv P T kvs) (h1 : k.1 ∈ P) (h2 : k.2 ∈ T) : VInv P T (dSetd kvs k y) := by
  have e : kys (dSetd kvs k y) = kys (dPut kvs k y) := by rw [kys_setd, kys_put]
  have a := vinv_put (y := y) h h1 h2
  exact ⟨by rw [e]; exact a.nd, by rw [e]; exact a.inn⟩
structure VerT (b : BookV) (h : Hab62) (T : List (List Str)) : Prop where
  see : ∀ s ∈ b.views, s.2.2 ∈ T
  told : ∀ p, ∀ t ∈ T, m_P_as_told h p t ∈ T
  few : b.crew.length * T.length ≤ 400
  short : ∀ t ∈ T, t.length ≤ 100
structure VerOk (b : BookV) (h : Hab62) : Prop where
  bk : BkOk b
  ex : ∃ T, VerT b h T
theorem vinv_short {b : BookV} {h : Hab62} {T : List (List Str)} {kvs : Ver62} (t : VerT b h T) (i : VInv b.crew T kvs) : ∀ q ∈ kvs, q.1.2.length ≤ 100 := fun q hq => t.short _ (i.inn q.1 (List.mem_map_of_mem hq)).2
theorem heard_mem {kvs : Ver62} {h : Hab62} {x : Int × Int × Str × Str} {e : List Str × List Str} (he : e ∈ m_P_heard_by kvs h x) : ∃ q ∈ kvs, q.1.1 = x.2.2.1 ∧ q.2 < x.1 ∧ e = (q.1.2, m_P_as_told h x.2.2.1 q.1.2) := by
  unfold m_P_heard_by at he
  simp only [lt] at he
  have key : ∀ (xs : Ver62) (s0 : List (List Str × List Str)), e ∈ xs.foldl (fun s x6 => if (decide (x6.1.1 = x.2.2.1) && decide (x6.2 < x.1)) = true then s ++ [(x6.1.2, m_P_as_told h x.2.2.1 x6.1.2)] else s) s0 → e ∈ s0 ∨ ∃ q ∈ xs, q.1.1 = x.2.2.1 ∧ q.2 < x.1 ∧ e = (q.1.2, m_P_as_told h x.2.2.1 q.1.2) := by
    intro xs
    induction xs with
    | nil => intro s0 h0; exact .inl h0
    | cons y ys ih =>
      intro s0 h0
      rw [List.foldl_cons] at h0
      rcases ih _ h0 with h1 | ⟨q, hq, h2⟩
      · split at h1
        · rename_i hc
          rw [Bool.and_eq_true, decide_eq_true_eq, decide_eq_true_eq] at hc
          rcases List.mem_append.mp h1 with h1 | h1
          · exact .inl h1
          · exact .inr ⟨y, List.mem_cons_self, hc.1, hc.2, List.mem_singleton.mp h1⟩
        · exact .inl h1
      · exact .inr ⟨q, List.mem_cons_of_mem _ hq, h2⟩
  rcases key kvs [] he with h1 | h1
  · cases h1
  · exact h1
def m_P_open_sights (a_book : BookV) : (List Int) :=
  lt (m_P_floors a_book) fun known_1 =>
  (((enumL (m_P_Book_sights a_book)).filter fun e_2 => (m_P_is_above e_2.2.2.1 (dGet known_1 e_2.2.1))).map fun e_2 => e_2.1)
theorem open_len {b : BookV} (h : BkOk b) : (m_P_open_sights b).length ≤ 24 := by
  unfold m_P_open_sights
  simp only [lt]
  rw [List.length_map]
  refine Nat.le_trans (List.length_filter_le _ _) ?_
  rw [enumL_len]
  exact h.lv
theorem opens_in {b : BookV} : ∀ k ∈ m_P_open_sights b, inR b.views.length k := by
  intro k hk
  unfold m_P_open_sights at hk
  simp only [lt] at hk
  obtain ⟨q, hq, rfl⟩ := List.mem_map.mp hk
  have := mem_enum (List.mem_filter.mp hq).1
  have e : (m_P_Book_sights b).length = b.views.length := rfl
  show _ ≤ _ ∧ _ < _
  omega
theorem ver_src {b : BookV} {h : Hab62} {T : List (List Str)} (hT : VerT b h T) (bk : BkOk b) {x : Str × Int × List Str} (hx : x ∈ ((m_P_open_sights b).map fun e => nth (m_P_Book_sights b) e).mergeSort fun a c => decide (a.2.1 ≤ c.2.1)) : x.1 ∈ b.crew ∧ x.2.2 ∈ T := by
  have hx := (List.mergeSort_perm _ _).mem_iff.mp hx
  obtain ⟨k, hk, rfl⟩ := List.mem_map.mp hx
  have hm : nth (m_P_Book_sights b) k ∈ b.views := nth_mem (opens_in k hk)
  exact ⟨bk.see _ hm, hT.see _ hm⟩
theorem ver_first {P : List Str} {T : List (List Str)} {xs : List (Str × Int × List Str)} (hx : ∀ x ∈ xs, x.1 ∈ P ∧ x.2.2 ∈ T) : VInv P T (xs.foldl (fun s x => dSetd s (x.1, x.2.2) x.2.1) []) :=
  foldl_keepM (P := fun s => VInv P T s) (fun s x m i => vinv_setd i (hx x m).1 (hx x m).2) vinv_nil
theorem ver_turn {b : BookV} {h : Hab62} {T : List (List Str)} (hT : VerT b h T) {p : Int × Int × Str × Str} (hp : p.2.2.2 ∈ b.crew) {kvs : Ver62} (i : VInv b.crew T kvs) {ys : List (List Str × List Str)} (hy : ∀ y ∈ ys, y ∈ m_P_heard_by kvs h p) : VInv b.crew T (ys.foldl (fun s y => dPut s (p.2.2.2, y.2) (imin ((dFind s (p.2.2.2, y.2)).getD p.1) p.1)) kvs) :=
  foldl_keepM (P := fun s => VInv b.crew T s) (fun s y m j => by
    obtain ⟨q, hq, _, _, rfl⟩ := heard_mem (hy y m)
    exact vinv_put j hp (hT.told _ _ (i.inn q.1 (List.mem_map_of_mem hq)).2)) i
theorem timed_in {b : BookV} (bk : BkOk b) {x : Int × Int × Str × Str} (hx : x ∈ m_P_timed_tellings b) : x.2.2.2 ∈ b.crew := by
  have e : m_P_timed_tellings b = srtD (fun x : (Int × Int × Str × Str) => PyData.tuple [PyData.int x.1, PyData.int x.2.1, PyData.str x.2.2.1, PyData.str x.2.2.2]) ((m_P_open_tellings b).map fun e => ((nth (m_P_Book_talks b) e.1).1, e.1, e.2.1, e.2.2)) := rfl
  rw [e, mem_srt] at hx
  obtain ⟨q, hq, rfl⟩ := List.mem_map.mp hx
  exact (tel_mem bk q (opent_sub q hq)).2.2
def m_P_earliest_versions (a_book : BookV) (a_habits : (List (Str × (List (Str × Str))))) : (List ((Str × (List Str)) × Int)) :=
  lt (m_P_Book_sights a_book) fun sights_1 =>
  lt ((((m_P_open_sights a_book).map fun e_3 => (nth sights_1 e_3)).mergeSort fun a b => decide (a.2.1 ≤ b.2.1)).foldl (fun (s_6 : (List ((Str × (List Str)) × Int))) (x_7 : (Str × Int × (List Str))) =>
    lt (dSetd s_6 (x_7.1, x_7.2.2) x_7.2.1) fun known_14 =>
    known_14) ([] : (List ((Str × (List Str)) × Int)))) fun (s_6 : (List ((Str × (List Str)) × Int))) =>
  lp (loopL (R := (List ((Str × (List Str)) × Int))) (fun (s_15 : (List ((Str × (List Str)) × Int))) (x_16 : (Int × Int × Str × Str)) =>
    lt ((m_P_heard_by s_15 a_habits x_16).foldl (fun (s_23 : (List ((Str × (List Str)) × Int))) (x_24 : ((List Str) × (List Str))) =>
      lt (x_16.2.2.2, x_24.2) fun version_32 =>
      lt (dPut s_23 version_32 (imin ((dFind s_23 version_32).getD x_16.1) x_16.1)) fun known_33 =>
      known_33) s_15) fun (s_23 : (List ((Str × (List Str)) × Int))) =>
    (Ret.nx s_23)) (m_P_timed_tellings a_book) s_6) fun (s_15 : (List ((Str × (List Str)) × Int))) =>
  s_15
theorem ver_form (b : BookV) (h : Hab62) : m_P_earliest_versions b h = (m_P_timed_tellings b).foldl (fun s x => (m_P_heard_by s h x).foldl (fun s y => dPut s (x.2.2.2, y.2) (imin ((dFind s (x.2.2.2, y.2)).getD x.1) x.1)) s) ((((m_P_open_sights b).map fun e => nth (m_P_Book_sights b) e).mergeSort fun a c => decide (a.2.1 ≤ c.2.1)).foldl (fun s x => dSetd s (x.1, x.2.2) x.2.1) []) := by
  have e : m_P_earliest_versions b h = lp (loopL (R := Ver62) (fun s x => .nx ((m_P_heard_by s h x).foldl (fun s y => dPut s (x.2.2.2, y.2) (imin ((dFind s (x.2.2.2, y.2)).getD x.1) x.1)) s)) (m_P_timed_tellings b) ((((m_P_open_sights b).map fun e => nth (m_P_Book_sights b) e).mergeSort fun a c => decide (a.2.1 ≤ c.2.1)).foldl (fun s x => dSetd s (x.1, x.2.2) x.2.1) [])) fun s => s := rfl
  rw [e, loop_fold]
  rfl
theorem ver_inv {b : BookV} {h : Hab62} {T : List (List Str)} (hT : VerT b h T) (bk : BkOk b) : VInv b.crew T (m_P_earliest_versions b h) := by
  rw [ver_form]
  refine foldl_keepM (P := fun s => VInv b.crew T s) (fun s x m i => ver_turn hT (timed_in bk m) i fun y hy => hy) ?_
  exact ver_first fun x hx => ver_src hT bk hx
def m_P_heard_by_at_f (a_known : (List ((Str × (List Str)) × Int))) (a_habits : (List (Str × (List (Str × Str))))) (a_step : (Int × Int × Str × Str)) : (List ((List Str) × (List Str))) :=
  lt (a_known.foldl (fun (s_3 : (List ((List Str) × (List Str)))) (x_4 : ((Str × (List Str)) × Int)) =>
    (if ((decide (x_4.1.1 = a_step.2.2.1)) && (decide (x_4.2 < a_step.1))) then
      lt (s_3 ++ [(x_4.1.2, (m_P_as_told a_habits a_step.2.2.1 x_4.1.2))]) fun found_15 =>
      found_15
    else
      s_3)) ([] : List ((List Str) × (List Str)))) fun (s_3 : (List ((List Str) × (List Str)))) =>
  s_3
def m_P_traced (a_book : BookV) (a_habits : (List (Str × (List (Str × Str))))) (a_person : Str) (a_tale : (List Str)) (a_hour : Int) : (List (Int × Str × Str × (List Str))) :=
  lt (m_P_earliest_versions a_book a_habits) fun known_1 =>
  lt (((m_P_timed_tellings a_book).reverse).foldl (fun (s_5 : (List ((Str × (List Str)) × Int)) × (List (Int × Str × Str × (List Str)))) (x_6 : (Int × Int × Str × Str)) =>
    lt ((m_P_heard_by_at_f known_1 a_habits x_6).foldl (fun (s_13 : (List ((Str × (List Str)) × Int)) × (List (Int × Str × Str × (List Str)))) (x_14 : ((List Str) × (List Str))) =>
      (if (decide (x_6.1 ≤ ((dFind s_13.1 (x_6.2.2.2, x_14.2)).getD (-(1 : Int))))) then
        lt (x_6.2.2.1, x_14.1) fun version_24 =>
        lt (dPut s_13.1 version_24 (imax ((dFind s_13.1 version_24).getD (-(1 : Int))) (x_6.1 - (1 : Int)))) fun limits_25 =>
        lt (s_13.2 ++ [(x_6.2.1, x_6.2.2.1, x_6.2.2.2, x_14.1)]) fun found_26 =>
        (limits_25, found_26)
      else
        (s_13.1, s_13.2))) (s_5.1, s_5.2)) fun (s_13 : (List ((Str × (List Str)) × Int)) × (List (Int × Str × Str × (List Str)))) =>
    (s_13.1, s_13.2)) ([((a_person, a_tale), a_hour)], ([] : List (Int × Str × Str × (List Str))))) fun (s_5 : (List ((Str × (List Str)) × Int)) × (List (Int × Str × Str × (List Str)))) =>
  (srtD (fun x : (Int × Str × Str × (List Str)) => PyData.tuple [PyData.int x.1, PyData.str x.2.1, PyData.str x.2.2.1, (fun xs => PyData.tuple (xs.map PyData.str)) x.2.2.2]) s_5.2)
abbrev HopV := Int × Str × Str × List Str
abbrev pdH (x : HopV) : PyData := PyData.tuple [PyData.int x.1, PyData.str x.2.1, PyData.str x.2.2.1, (fun xs => PyData.tuple (xs.map PyData.str)) x.2.2.2]
def trIn (x : Int × Int × Str × Str) (s : Ver62 × List HopV) (y : List Str × List Str) : Ver62 × List HopV :=
  if decide (x.1 ≤ (dFind s.1 (x.2.2.2, y.2)).getD (-1)) = true then (dPut s.1 (x.2.2.1, y.1) (imax ((dFind s.1 (x.2.2.1, y.1)).getD (-1)) (x.1 - 1)), s.2 ++ [(x.2.1, x.2.2.1, x.2.2.2, y.1)]) else (s.1, s.2)
def trOut (kn : Ver62) (h : Hab62) (s : Ver62 × List HopV) (x : Int × Int × Str × Str) : Ver62 × List HopV := (m_P_heard_by kn h x).foldl (trIn x) (s.1, s.2)
theorem traced_form (b : BookV) (h : Hab62) (p : Str) (t : List Str) (w : Int) : m_P_traced b h p t w = srtD pdH (((m_P_timed_tellings b).reverse.foldl (trOut (m_P_earliest_versions b h) h) ([((p, t), w)], [])).2) := rfl
theorem heard_len (kn : Ver62) (h : Hab62) (x : Int × Int × Str × Str) : (m_P_heard_by kn h x).length ≤ kn.length := by
  have e : m_P_heard_by kn h x = kn.foldl (fun s q => if (decide (q.1.1 = x.2.2.1) && decide (q.2 < x.1)) = true then s ++ [(q.1.2, m_P_as_told h x.2.2.1 q.1.2)] else s) [] := rfl
  rw [e]
  refine Nat.le_trans (foldl_meas (m := fun s : List (List Str × List Str) => s.length) (c := 1) (fun s x => ?_)) ?_
  · split
    · rw [List.length_append]; exact Nat.le_refl _
    · exact Nat.le_succ _
  · have e0 : ([] : List (List Str × List Str)).length = 0 := rfl
    omega
theorem trin_len (x : Int × Int × Str × Str) (s : Ver62 × List HopV) (y : List Str × List Str) : (trIn x s y).1.length ≤ s.1.length + 1 ∧ (trIn x s y).2.length ≤ s.2.length + 1 := by
  unfold trIn
  split
  · exact ⟨dPut_len, by rw [List.length_append]; exact Nat.le_refl _⟩
  · exact ⟨Nat.le_succ _, Nat.le_succ _⟩
theorem trout_len {kn : Ver62} (hk : kn.length ≤ 400) (h : Hab62) (s : Ver62 × List HopV) (x : Int × Int × Str × Str) : (trOut kn h s x).1.length ≤ s.1.length + 400 ∧ (trOut kn h s x).2.length ≤ s.2.length + 400 := by
  have hl := heard_len kn h x
  unfold trOut
  have h1 := foldl_meas (m := fun s : Ver62 × List HopV => s.1.length) (c := 1) (f := trIn x) (fun s y => (trin_len x s y).1) (xs := m_P_heard_by kn h x) (s0 := (s.1, s.2))
  have h2 := foldl_meas (m := fun s : Ver62 × List HopV => s.2.length) (c := 1) (f := trIn x) (fun s y => (trin_len x s y).2) (xs := m_P_heard_by kn h x) (s0 := (s.1, s.2))
  have h1' : ((m_P_heard_by kn h x).foldl (trIn x) (s.1, s.2)).1.length ≤ s.1.length + 1 * (m_P_heard_by kn h x).length := h1
  have h2' : ((m_P_heard_by kn h x).foldl (trIn x) (s.1, s.2)).2.length ≤ s.2.length + 1 * (m_P_heard_by kn h x).length := h2
  omega
theorem tr_len {kn : Ver62} (hk : kn.length ≤ 400) (h : Hab62) (s : Ver62 × List HopV) (xs : List (Int × Int × Str × Str)) : (xs.foldl (trOut kn h) s).1.length ≤ s.1.length + 400 * xs.length ∧ (xs.foldl (trOut kn h) s).2.length ≤ s.2.length + 400 * xs.length :=
  ⟨foldl_meas (m := fun s : Ver62 × List HopV => s.1.length) (c := 400) (fun s y => (trout_len hk h s y).1), foldl_meas (m := fun s : Ver62 × List HopV => s.2.length) (c := 400) (fun s y => (trout_len hk h s y).2)⟩
theorem timed_len {b : BookV} (bk : BkOk b) : (m_P_timed_tellings b).length ≤ 240 := by
  have e : m_P_timed_tellings b = srtD (fun x : (Int × Int × Str × Str) => PyData.tuple [PyData.int x.1, PyData.int x.2.1, PyData.str x.2.2.1, PyData.str x.2.2.2]) ((m_P_open_tellings b).map fun e => ((nth (m_P_Book_talks b) e.1).1, e.1, e.2.1, e.2.2)) := rfl
  rw [e, srt_len, List.length_map]
  exact opent_len bk
theorem ver_few {b : BookV} {h : Hab62} (v : VerOk b h) : (m_P_earliest_versions b h).length ≤ 400 ∧ ∀ q ∈ m_P_earliest_versions b h, q.1.2.length ≤ 100 := by
  obtain ⟨T, hT⟩ := v.ex
  have i := ver_inv hT v.bk
  exact ⟨Nat.le_trans (vinv_len i) hT.few, vinv_short hT i⟩
theorem traced_len {b : BookV} {h : Hab62} {p : Str} {t : List Str} {w : Int} (v : VerOk b h) : (m_P_traced b h p t w).length ≤ 96000 := by
  rw [traced_form, srt_len]
  have h1 := (tr_len (ver_few v).1 h ([((p, t), w)], []) (m_P_timed_tellings b).reverse).2
  have h2 := timed_len v.bk
  rw [List.length_reverse] at h1
  have e : (([((p, t), w)], []) : Ver62 × List HopV).2.length = 0 := rfl
  omega
def m_L_floor (a_sayings : (List Sy)) (a_person : Str) : (Option Int) :=
  lt (-(1 : Int)) fun floor_here_1 =>
  lp (loopL (R := (Option Int)) (fun (s_2 : Int) (x_3 : Sy) =>
    (if ((decide (x_3.kd = ("unheard" : Str))) && (decide (x_3.who = a_person))) then
      (if (x_3.ho.isNone) then
        (Ret.rt (none : (Option Int)))
      else
      lt (imax s_2 (x_3.ho.getD default)) fun floor_here_14 =>
      (Ret.nx floor_here_14))
    else
      (Ret.nx s_2))) a_sayings floor_here_1) fun (s_2 : Int) =>
  (some s_2)
def m_L_seen (a_sights_here : (List (Str × Int × (List Str)))) (a_sayings : (List Sy)) : (List (Str × Int × (List Str))) :=
  lt (a_sights_here.foldl (fun (s_3 : (List (Str × Int × (List Str)))) (x_4 : (Str × Int × (List Str))) =>
    lt (m_L_floor a_sayings x_4.1) fun floor_here_12 =>
    (if ((!floor_here_12.isNone) && (decide ((floor_here_12.getD default) < x_4.2.1))) then
      lt (s_3 ++ [(x_4.1, x_4.2.1, x_4.2.2)]) fun found_16 =>
      found_16
    else
      s_3)) ([] : List (Str × Int × (List Str)))) fun (s_3 : (List (Str × Int × (List Str)))) =>
  s_3
def m_L_shut (a_sayings : (List Sy)) (a_hour_here : Int) (a_teller : Str) (a_hearer : Str) : Bool :=
  lt (m_L_floor a_sayings a_hearer) fun floor_here_1 =>
  (if ((floor_here_1.isNone) || (decide (a_hour_here ≤ (floor_here_1.getD default)))) then
    true
  else
  lp (loopL (R := Bool) (fun (s_5 : Unit) (x_6 : Sy) =>
    (if ((decide (x_6.kd = ("silent" : Str))) && ((decide (x_6.who = a_teller)) && ((decide (x_6.h1 ≤ a_hour_here)) && (decide (a_hour_here ≤ x_6.h2))))) then
      (Ret.rt true)
    else
    (if (decide (x_6 = (Sy.barred a_hearer a_teller))) then
      (Ret.rt true)
    else
      (Ret.nx ())))) a_sayings ()) fun (s_5 : Unit) =>
  false)
def m_L_open (a_talks_here : (List (Int × Str × Str × Str))) (a_sayings : (List Sy)) : (List (Int × Str × Str)) :=
  lt ((enumL a_talks_here).foldl (fun (s_3 : (List (Int × Str × Str))) (x_4 : (Int × (Int × Str × Str × Str))) =>
    lt (if (!(m_L_shut a_sayings x_4.2.1 x_4.2.2.1 x_4.2.2.2.1)) then
      lt (s_3 ++ [(x_4.1, x_4.2.2.1, x_4.2.2.2.1)]) fun found_14 =>
      found_14
    else
      s_3) fun (s_13 : (List (Int × Str × Str))) =>
    (if ((decide (x_4.2.2.2.2 = ("both" : Str))) && (!(m_L_shut a_sayings x_4.2.1 x_4.2.2.2.1 x_4.2.2.1))) then
      lt (s_13 ++ [(x_4.1, x_4.2.2.2.1, x_4.2.2.1)]) fun found_18 =>
      found_18
    else
      s_13)) ([] : List (Int × Str × Str))) fun (s_3 : (List (Int × Str × Str))) =>
  s_3
abbrev LBk := List Str × List Sight × List Talk × List Sy
theorem lseen_len (s : List Sight) (y : List Sy) : (m_L_seen s y).length ≤ s.length := by
  unfold m_L_seen
  simp only [lt]
  refine Nat.le_trans (foldl_meas (m := fun l : List Sight => l.length) (c := 1) (fun s x => ?_)) ?_
  · split <;> (try simp only [List.length_append, List.length_cons, List.length_nil]) <;> omega
  · have e : ([] : List Sight).length = 0 := rfl
    omega
theorem lseen_mem {s : List Sight} {y : List Sy} : ∀ x ∈ m_L_seen s y, x ∈ s := by
  unfold m_L_seen
  simp only [lt]
  refine foldl_keepM (P := fun l : List Sight => ∀ x ∈ l, x ∈ s) (fun l x hx h => ?_) (fun q hq => nomatch hq)
  split
  · intro q hq
    rcases List.mem_append.mp hq with hq | hq
    · exact h q hq
    · rw [List.mem_singleton.mp hq]; exact hx
  · exact h
theorem lopen_mem {t : List Talk} {y : List Sy} {P : List Str} (ht : ∀ x ∈ t, x.2.1 ∈ P ∧ x.2.2.1 ∈ P) : ∀ q ∈ m_L_open t y, inR t.length q.1 ∧ q.2.1 ∈ P ∧ q.2.2 ∈ P := by
  unfold m_L_open
  simp only [lt]
  refine foldl_keepM (P := fun l : List (Int × Str × Str) => ∀ q ∈ l, inR t.length q.1 ∧ q.2.1 ∈ P ∧ q.2.2 ∈ P) (fun l x hx h => ?_) (fun q hq => nomatch hq)
  have hm := mem_enum hx
  have hp := ht _ hm.2.2
  have hr : inR t.length x.1 := by show _ ≤ _ ∧ _ < _; omega
  have one : ∀ l' : List (Int × Str × Str), (∀ q ∈ l', inR t.length q.1 ∧ q.2.1 ∈ P ∧ q.2.2 ∈ P) → ∀ q ∈ (if (decide (x.2.2.2.2 = ("both" : Str)) && !(m_L_shut y x.2.1 x.2.2.2.1 x.2.2.1)) = true then l' ++ [(x.1, x.2.2.2.1, x.2.2.1)] else l'), inR t.length q.1 ∧ q.2.1 ∈ P ∧ q.2.2 ∈ P := fun l' h' => by
    split
    · intro q hq
      rcases List.mem_append.mp hq with hq | hq
      · exact h' q hq
      · rw [List.mem_singleton.mp hq]; exact ⟨hr, hp.2, hp.1⟩
    · exact h'
  refine one _ ?_
  split
  · intro q hq
    rcases List.mem_append.mp hq with hq | hq
    · exact h q hq
    · rw [List.mem_singleton.mp hq]; exact ⟨hr, hp.1, hp.2⟩
  · exact h
def m_L_told (a_habits_here : (List (Str × (List (Str × Str))))) (a_person : Str) (a_tale : (List Str)) : (List Str) :=
  lt (a_tale.foldl (fun (s_3 : (List Str)) (x_4 : Str) =>
    lt ((((dFind a_habits_here a_person).getD ([] : List (Str × Str))).filter fun e_12 => (decide (e_12.1 = x_4))).map fun e_12 => e_12.2) fun others_15 =>
    lt (s_3 ++ [(nth (others_15 ++ ([x_4])) (0 : Int))]) fun words_16 =>
    words_16) ([] : List Str)) fun (s_3 : (List Str)) =>
  s_3
def m_L_hops (a_book : ((List Str) × (List (Str × Int × (List Str))) × (List (Int × Str × Str × Str)) × (List Sy))) (a_habits_here : (List (Str × (List (Str × Str))))) : (List (Int × (Int × Str × Str × (List Str)) × (List Str))) :=
  lt (m_L_seen a_book.2.1 a_book.2.2.2) fun seen_here_1 =>
  lt ((srtD (fun x : (Int × Int × Str × Str) => PyData.tuple [PyData.int x.1, PyData.int x.2.1, PyData.str x.2.2.1, PyData.str x.2.2.2]) ((m_L_open a_book.2.2.1 a_book.2.2.2).map fun e_4 => ((nth a_book.2.2.1 e_4.1).1, e_4.1, e_4.2.1, e_4.2.2))).foldl (fun (s_7 : (List (Int × (Int × Str × Str × (List Str)) × (List Str)))) (x_8 : (Int × Int × Str × Str)) =>
    lt ((seen_here_1.filter fun e_15 => ((decide (e_15.1 = x_8.2.2.1)) && (decide (e_15.2.1 < x_8.1)))).map fun e_15 => e_15.2.2) fun tales_20 =>
    lt (tales_20 ++ ((s_7.filter fun e_21 => ((decide (e_21.2.1.2.2.1 = x_8.2.2.1)) && (decide (e_21.1 < x_8.1)))).map fun e_21 => e_21.2.2)) fun tales_26 =>
    lt ((srtSetT tales_26).foldl (fun (s_27 : (List (Int × (Int × Str × Str × (List Str)) × (List Str)))) (x_28 : (List Str)) =>
      lt (s_27 ++ [(x_8.1, (x_8.2.1, x_8.2.2.1, x_8.2.2.2, x_28), (m_L_told a_habits_here x_8.2.2.1 x_28))]) fun hops_here_36 =>
      hops_here_36) s_7) fun (s_27 : (List (Int × (Int × Str × Str × (List Str)) × (List Str)))) =>
    s_27) ([] : List (Int × (Int × Str × Str × (List Str)) × (List Str)))) fun (s_7 : (List (Int × (Int × Str × Str × (List Str)) × (List Str)))) =>
  s_7
abbrev HopL := Int × (Int × Str × Str × List Str) × List Str
structure HpT (b : LBk) (h : Hab62) (P : List Str) (T : List (List Str)) : Prop where
  see : ∀ s ∈ b.2.1, s.1 ∈ P ∧ s.2.2 ∈ T
  tk : ∀ t ∈ b.2.2.1, t.2.1 ∈ P ∧ t.2.2.1 ∈ P
  told : ∀ p, ∀ t ∈ T, m_L_told h p t ∈ T
  few : T.length ≤ 60
  short : ∀ t ∈ T, 1 ≤ t.length ∧ t.length ≤ 100
structure HpOk (b : LBk) (h : Hab62) : Prop where
  ex : ∃ P T, HpT b h P T
  hab : HabOk h
  lt : b.2.2.1.length ≤ 100
  ls : b.2.1.length ≤ 24
theorem HpT.ne {b : LBk} {h : Hab62} {P : List Str} {T : List (List Str)} (k : HpT b h P T) {xs : List (List Str)} (hx : ∀ x ∈ xs, x ∈ T) : ∀ x ∈ xs, x ≠ [] := fun x m e => by
  have z := (k.short x (hx x m)).1
  rw [e] at z
  exact absurd z (by decide)
theorem HpT.nub {b : LBk} {h : Hab62} {P : List Str} {T : List (List Str)} (k : HpT b h P T) {xs : List (List Str)} (hx : ∀ x ∈ xs, x ∈ T) : (nubL xs).length ≤ 60 :=
  Nat.le_trans (nd_sub_len _ T (nubL_nd xs) fun x m => hx x (mem_nubL.mp m)) k.few
def talesAt (ss : List Sight) (s : List HopL) (x : Int × Int × Str × Str) : List (List Str) :=
  ((ss.filter fun e => ((decide (e.1 = x.2.2.1)) && (decide (e.2.1 < x.1)))).map fun e => e.2.2) ++ ((s.filter fun e => ((decide (e.2.1.2.2.1 = x.2.2.1)) && (decide (e.1 < x.1)))).map fun e => e.2.2)
def hopIn (h : Hab62) (x : Int × Int × Str × Str) (s : List HopL) (t : List Str) : List HopL := s ++ [(x.1, (x.2.1, x.2.2.1, x.2.2.2, t), m_L_told h x.2.2.1 t)]
def hopOut (ss : List Sight) (h : Hab62) (s : List HopL) (x : Int × Int × Str × Str) : List HopL := (srtSetT (talesAt ss s x)).foldl (hopIn h x) s
theorem lhops_form (b : LBk) (h : Hab62) : m_L_hops b h = (srtD (fun x : (Int × Int × Str × Str) => PyData.tuple [PyData.int x.1, PyData.int x.2.1, PyData.str x.2.2.1, PyData.str x.2.2.2]) ((m_L_open b.2.2.1 b.2.2.2).map fun e => ((nth b.2.2.1 e.1).1, e.1, e.2.1, e.2.2))).foldl (hopOut (m_L_seen b.2.1 b.2.2.2) h) [] := rfl
theorem hopIn_eq (h : Hab62) (x : Int × Int × Str × Str) : ∀ (ts : List (List Str)) (s : List HopL), ts.foldl (hopIn h x) s = s ++ ts.map fun t => (x.1, (x.2.1, x.2.2.1, x.2.2.2, t), m_L_told h x.2.2.1 t)
  | [], s => (List.append_nil s).symm
  | t :: ts, s => by
    rw [List.foldl_cons, hopIn_eq h x ts, hopIn, List.append_assoc]
    rfl
theorem hopOut_eq (ss : List Sight) (h : Hab62) (s : List HopL) (x : Int × Int × Str × Str) : hopOut ss h s x = s ++ (srtSetT (talesAt ss s x)).map fun t => (x.1, (x.2.1, x.2.2.1, x.2.2.2, t), m_L_told h x.2.2.1 t) := hopIn_eq h x _ s
theorem tales_in {b : LBk} {h : Hab62} {P : List Str} {T : List (List Str)} (k : HpT b h P T) {ss : List Sight} (hs : ∀ x ∈ ss, x ∈ b.2.1) {s : List HopL} (hi : ∀ q ∈ s, q.2.2 ∈ T) {x : Int × Int × Str × Str} : ∀ t ∈ talesAt ss s x, t ∈ T := fun t m => by
  rcases List.mem_append.mp m with m | m
  · obtain ⟨e, he, rfl⟩ := List.mem_map.mp m
    exact (k.see e (hs e (List.mem_filter.mp he).1)).2
  · obtain ⟨e, he, rfl⟩ := List.mem_map.mp m
    exact hi e (List.mem_filter.mp he).1
theorem hopOut_in {b : LBk} {h : Hab62} {P : List Str} {T : List (List Str)} (k : HpT b h P T) {ss : List Sight} (hs : ∀ x ∈ ss, x ∈ b.2.1) {s : List HopL} {x : Int × Int × Str × Str} (hi : ∀ q ∈ s, q.2.2 ∈ T) : (∀ q ∈ hopOut ss h s x, q.2.2 ∈ T) ∧ (hopOut ss h s x).length ≤ s.length + 60 := by
  rw [hopOut_eq]
  have z := tales_in k hs hi (x := x)
  refine ⟨fun q m => ?_, ?_⟩
  · rcases List.mem_append.mp m with m | m
    · exact hi q m
    · obtain ⟨t, ht, rfl⟩ := List.mem_map.mp m
      exact k.told _ _ (z t (mem_srtSetT.mp ht))
  · rw [List.length_append, List.length_map]
    have e : (srtSetT (talesAt ss s x)).length = (nubL (talesAt ss s x)).length := srt_len
    have := k.nub z
    omega
theorem hops_inv {b : LBk} {h : Hab62} {P : List Str} {T : List (List Str)} (k : HpT b h P T) {ss : List Sight} (hs : ∀ x ∈ ss, x ∈ b.2.1) : ∀ (xs : List (Int × Int × Str × Str)) (s : List HopL), (∀ q ∈ s, q.2.2 ∈ T) → (∀ q ∈ xs.foldl (hopOut ss h) s, q.2.2 ∈ T) ∧ (xs.foldl (hopOut ss h) s).length ≤ s.length + 60 * xs.length
  | [], s, hi => ⟨hi, Nat.le_add_right _ _⟩
  | x :: xs, s, hi => by
    obtain ⟨a1, a2⟩ := hopOut_in k hs hi (x := x)
    obtain ⟨c1, c2⟩ := hops_inv k hs xs _ a1
    refine ⟨c1, Nat.le_trans c2 ?_⟩
    rw [List.length_cons]
    omega
theorem lopen_len (t : List Talk) (y : List Sy) : (m_L_open t y).length ≤ 2 * t.length := by
  unfold m_L_open
  simp only [lt]
  have e : (enumL t).length = t.length := enumL_len
  refine Nat.le_trans (foldl_meas (m := fun l : List (Int × Str × Str) => l.length) (c := 2) (fun s x => ?_)) ?_
  · (repeat' split) <;> (try simp only [List.length_append, List.length_cons, List.length_nil]) <;> omega
  · have z : ([] : List (Int × Str × Str)).length = 0 := rfl
    omega
theorem lhops_len {b : LBk} {h : Hab62} (k : HpOk b h) : (m_L_hops b h).length ≤ 12000 := by
  obtain ⟨P, T, hT⟩ := k.ex
  rw [lhops_form]
  refine Nat.le_trans (hops_inv hT lseen_mem _ [] fun _ z => nomatch z).2 ?_
  rw [srt_len, List.length_map]
  have := lopen_len b.2.2.1 b.2.2.2
  have := k.lt
  show 0 + _ ≤ _
  omega
theorem tales_pre {b : LBk} {h : Hab62} {P : List Str} {T : List (List Str)} (k : HpT b h P T) {ss : List Sight} (hs : ∀ x ∈ ss, x ∈ b.2.1) {f : Sight → Bool} {xs : List (List Str)} (e : xs = (ss.filter f).map fun e => e.2.2) : ∀ t ∈ xs, t ∈ T := fun t m => by
  rw [e] at m
  obtain ⟨e, he, rfl⟩ := List.mem_map.mp m
  exact (k.see e (hs e (List.mem_filter.mp he).1)).2
theorem tales_cat {T ys xs : List (List Str)} {s : List HopL} (hy : ∀ t ∈ ys, t ∈ T) (hi : ∀ q ∈ s, q.2.2 ∈ T) {f : HopL → Bool} (e : xs = ys ++ ((s.filter f).map fun e => e.2.2)) : ∀ t ∈ xs, t ∈ T := fun t m => by
  rw [e] at m
  rcases List.mem_append.mp m with m | m
  · exact hy t m
  · obtain ⟨e, he, rfl⟩ := List.mem_map.mp m
    exact hi e (List.mem_filter.mp he).1
def m_L_saying (a_cell : Int) (a_persons : (List Str)) (a_far : Int) : Sy :=
  lt (nth a_persons ((m_L_mix a_cell (5 : Int)) % (a_persons.length : Int))) fun one_1 =>
  lt (nth a_persons ((((idxS a_persons one_1) + (1 : Int)) + ((m_L_mix a_cell (6 : Int)) % ((a_persons.length : Int) - (1 : Int)))) % (a_persons.length : Int))) fun two_2 =>
  lt (srtD PyData.int ([(m_L_hour (m_L_mix a_cell (7 : Int)) a_far), (m_L_hour (m_L_mix a_cell (8 : Int)) a_far)])) fun hours_3 =>
  lt ((m_L_mix a_cell (9 : Int)) % (7 : Int)) fun way_4 =>
  (if (decide (way_4 = (0 : Int))) then
    (Sy.barred one_1 two_2)
  else
  (if (decide (way_4 < (3 : Int))) then
    (Sy.silent one_1 (nth hours_3 (0 : Int)) (nth hours_3 (1 : Int)))
  else
  (if (decide (way_4 < (5 : Int))) then
    (Sy.unheard one_1 (some (nth hours_3 (0 : Int))))
  else
  (if (decide (way_4 = (5 : Int))) then
    (Sy.unheard one_1 (nth ([(none : (Option Int)), (some (nth hours_3 (0 : Int)))]) ((m_L_mix a_cell (10 : Int)) % (2 : Int))))
  else
  (Sy.knew one_1 (nth hours_3 (1 : Int)))))))
def m_L_cell_at (a_script : (List Int)) (a_k : Int) : Int :=
  (if (decide (a_k < (a_script.length : Int))) then
    (nth a_script a_k)
  else
  (0 : Int))
def lets61 : Str := "bcdfghjklmnpqrstvwxz"
theorem lets_nd : lets61.cps.toList.Nodup := by decide +kernel
theorem lets_len : lets61.cps.toList.length = 20 := by decide +kernel
theorem fold_tl {z : Str} {g : Int → Int} : ∀ {xs : List Int} {s0 : Str}, (xs.foldl (fun s j => s ++ signAt z (g j)) s0).cps.toList = s0.cps.toList ++ xs.map fun j => nth z.cps.toList (g j)
  | [], s0 => by simp
  | x :: xs, s0 => by
    rw [List.foldl_cons, fold_tl, tl_app, tl_sign, List.map_cons, List.append_assoc]
    rfl
def nmK (c k : Int) : Str := (upto (1 + c % 12)).foldl (fun s j => s ++ signAt lets61 ((c / 144 + (j * j + 3 * k * bi (decide (j = c / 12 % (1 + c % 12))))) % 20)) ""
theorem names_form (c m : Int) : m_L_names c m = (upto m).map (nmK c) := by
  have e : m_L_names c m = (upto m).foldl (fun s k => s ++ [nmK c k]) [] := rfl
  rw [e, foldl_keepF (g := fun k => [nmK c k]) (fun _ _ _ => rfl), List.nil_append, ← List.map_eq_flatMap]
theorem upto_inV {n k : Int} (h : 0 ≤ k ∧ k < n) : k ∈ upto n := by
  unfold upto
  refine List.mem_map.mpr ⟨k.toNat, List.mem_range.mpr (by omega), by show ((k.toNat : Nat) : Int) = k; omega⟩
theorem cut_takeV {α : Type} {xs : List α} {i : Int} (h : 0 ≤ i) : cut xs none (some i) = xs.take i.toNat := by
  have e1 : HT.sIx xs.length 0 none = 0 := rfl
  have e2 : HT.sIx xs.length xs.length (some i) = min i.toNat xs.length := by unfold HT.sIx; simp only []; split <;> omega
  unfold cut
  rw [e1, e2, List.drop_zero]
  rcases Nat.le_total i.toNat xs.length with h2 | h2
  · rw [Nat.min_eq_left h2]; rfl
  · rw [Nat.min_eq_right h2]
    show xs.take (xs.length - 0) = _
    rw [Nat.sub_zero, List.take_length, List.take_of_length_le h2]
theorem le_i62 {a b : Int} (h : PySem.W.dataLe false PyData.int a b = true) : a ≤ b := by
  rw [PySem.W.dataLe_eq] at h
  have h2 : (!PySem.W.dataLt (PyData.int b) (PyData.int a)) = true := h
  rw [Bool.not_eq_true', PySem.W.dataLt_int, decide_eq_false_iff_not] at h2
  omega
theorem keptV : ∀ w ∈ K_KEPT_WORDS, ∃ c ∈ w.cps.toList, c ∉ lets61.cps.toList := by decide +kernel
theorem letV_sign : ∀ c ∈ lets61.cps.toList, (⟨#[c]⟩ : Str) ∈ signs K_LETTERS := by decide +kernel
theorem good_nameV {t : Str} (h1 : 1 ≤ t.length ∧ t.length ≤ 12) (h2 : ∀ c ∈ t.cps.toList, c ∈ lets61.cps.toList) : m_P_is_name (Va.str t) = true := by
  have hk : t ∉ K_KEPT_WORDS := fun z => by
    obtain ⟨c, hc, hn⟩ := keptV t z
    exact hn (h2 c hc)
  have ha : (signs t).all (fun x => hasSign K_LETTERS x) = true := by
    rw [List.all_eq_true]
    intro s hs
    unfold signs at hs
    obtain ⟨c, hc, rfl⟩ := List.mem_map.mp hs
    exact decide_eq_true (letV_sign c (h2 c hc))
  unfold m_P_is_name
  have e1 : isA "str" (Va.str t) = true := rfl
  have e2 : (Va.str t).asS = t := rfl
  rw [e1, e2, loop_all (fun x => hasSign K_LETTERS x), ha]
  rw [decide_eq_true (show (1 : Int) ≤ (t.length : Int) by omega), decide_eq_true (show (t.length : Int) ≤ 12 by omega), decide_eq_false hk]
  rfl
theorem nmV_tl (c k : Int) : (nmK c k).cps.toList = (upto (1 + c % 12)).map fun j => nth lets61.cps.toList ((c / 144 + (j * j + 3 * k * bi (decide (j = c / 12 % (1 + c % 12))))) % 20) := by
  unfold nmK
  rw [fold_tl]
  rfl
theorem nmV_good (c k : Int) : m_P_is_name (Va.str (nmK c k)) = true := by
  refine good_nameV ?_ fun x hx => ?_
  · rw [len_tl, nmV_tl, List.length_map, upto_len]
    omega
  · rw [nmV_tl] at hx
    obtain ⟨j, _, rfl⟩ := List.mem_map.mp hx
    exact nth_mem (by show _ ≤ _ ∧ _ < _; rw [lets_len]; omega)
theorem nmV_inj {c i j : Int} (hi : 0 ≤ i) (hij : i < j) (hj : j < 20) : nmK c i ≠ nmK c j := by
  intro e
  have e2 := congrArg (fun s : Str => s.cps.toList) e
  simp only [nmV_tl] at e2
  have hs : 0 < 1 + c % 12 := by omega
  have h1 := Int.emod_nonneg (c / 12) (b := 1 + c % 12) (by omega)
  have h2 := Int.emod_lt_of_pos (c / 12) hs
  have e4 := (List.map_inj_left.mp e2) (c / 12 % (1 + c % 12)) (upto_inV ⟨h1, h2⟩)
  rw [decide_eq_true rfl] at e4
  have e5 := nth_inj lets_nd (by rw [lets_len]; omega) (by rw [lets_len]; omega) e4
  have hb : bi true = 1 := rfl
  rw [hb] at e5
  generalize c / 12 % (1 + c % 12) * (c / 12 % (1 + c % 12)) = y at e5
  omega
theorem namesV_ok (c : Int) {m : Int} (hm : m ≤ 20) : NamesOk (m_L_names c m) := by
  rw [names_form]
  refine ⟨List.pairwise_map.mpr (upto_pair fun i j h1 h2 h3 => nmV_inj h1 h2 (by omega)), fun t ht => ?_⟩
  obtain ⟨k, hk, rfl⟩ := List.mem_map.mp ht
  exact nmV_good c k
theorem hourV {c f : Int} (h : 0 ≤ f ∧ f ≤ 2) : m_P_is_hour (Va.int (m_L_hour c f)) = true := by
  have hm := nth_mem (xs := [c % 12, c % 12 * 1000000000000000 + 7, 1000000000000000000 - c % 9]) (i := f) (by show _ ≤ _ ∧ _ < 3; omega)
  have e : m_L_hour c f = nth [c % 12, c % 12 * 1000000000000000 + 7, 1000000000000000000 - c % 9] f := rfl
  rw [← e] at hm
  generalize m_L_hour c f = x at hm
  simp only [List.mem_cons, List.not_mem_nil, or_false] at hm
  rw [hour_iff, decide_eq_true (show 0 ≤ x by omega), decide_eq_true (show x ≤ 1000000000000000000 by omega)]
  rfl
theorem idx_nth {p : List Str} {x : Str} (h : x ∈ p) : 0 ≤ idxS p x ∧ idxS p x < (p.length : Int) ∧ nth p (idxS p x) = x := by
  have h1 := List.idxOf_lt_length_of_mem h
  have h2 : idxS p x = ((p.idxOf x : Nat) : Int) := rfl
  refine ⟨by omega, by omega, ?_⟩
  rw [nth_nat (by omega) (by omega)]
  have h3 : (idxS p x).toNat = p.idxOf x := by omega
  simp only [h3]
  exact List.getElem_idxOf h1
theorem twoV {p : List Str} (nd : p.Nodup) {i r : Int} (hp : 1 < p.length) (hr : 0 ≤ r ∧ r < (p.length : Int) - 1) : m_P_are_two (nth p (i % (p.length : Int))) (nth p ((idxS p (nth p (i % (p.length : Int))) + 1 + r) % (p.length : Int))) p = true := by
  obtain ⟨h1, h2, h3⟩ := idx_nth (p := p) (nth_mem (xs := p) (i := i % (p.length : Int)) (inR_mod (by omega)))
  generalize hk : idxS p (nth p (i % (p.length : Int))) = k at h1 h2 h3
  have e : k % (p.length : Int) = k := Int.emod_eq_of_lt h1 h2
  have := two_of nd (n := k) (r := r) hp hr
  rw [e] at this
  rw [← h3]
  exact this
theorem mixV (c k : Int) : 0 ≤ m_L_mix c k := by
  unfold m_L_mix
  simp only [lt]
  exact Int.emod_nonneg _ (by decide)
theorem talksV {p : List Str} {cells : List Int} {f : Int} (nd : p.Nodup) (hp : 1 < p.length) (hf : 0 ≤ f ∧ f ≤ 2) : (∀ x ∈ m_L_talks cells p f, m_P_is_talk x p = true) ∧ (m_L_talks cells p f).length = cells.length := by
  have e : m_L_talks cells p f = cells.map fun x => (m_L_hour (m_L_mix x 3) f, nth p (m_L_mix x 1 % (p.length : Int)), nth p ((idxS p (nth p (m_L_mix x 1 % (p.length : Int))) + 1 + m_L_mix x 2 % ((p.length : Int) - 1)) % (p.length : Int)), nth [("both" : Str), ("one" : Str)] (m_L_mix x 4 % 2)) := by
    have e0 : m_L_talks cells p f = cells.foldl (fun s x => s ++ [(m_L_hour (m_L_mix x 3) f, nth p (m_L_mix x 1 % (p.length : Int)), nth p ((idxS p (nth p (m_L_mix x 1 % (p.length : Int))) + 1 + m_L_mix x 2 % ((p.length : Int) - 1)) % (p.length : Int)), nth [("both" : Str), ("one" : Str)] (m_L_mix x 4 % 2))]) [] := rfl
    rw [e0, foldl_keepF (g := fun x => [(m_L_hour (m_L_mix x 3) f, nth p (m_L_mix x 1 % (p.length : Int)), nth p ((idxS p (nth p (m_L_mix x 1 % (p.length : Int))) + 1 + m_L_mix x 2 % ((p.length : Int) - 1)) % (p.length : Int)), nth [("both" : Str), ("one" : Str)] (m_L_mix x 4 % 2))]) (fun _ _ _ => rfl), List.nil_append, ← List.map_eq_flatMap]
  rw [e]
  refine ⟨fun t ht => ?_, List.length_map _⟩
  obtain ⟨x, _, rfl⟩ := List.mem_map.mp ht
  exact talk_true (hourV hf) (twoV nd hp ⟨Int.emod_nonneg _ (by omega), Int.emod_lt_of_pos _ (by omega)⟩) (nth_mem (by show -2 ≤ _ ∧ _ < 2; omega))
theorem taleV {w t : List Str} (hw : ∀ x ∈ w, m_P_is_name (Va.str x) = true) (h1 : 1 ≤ t.length ∧ t.length ≤ 6) (ht : ∀ x ∈ t, x ∈ w) : m_P_is_tale t = true := by
  have ha : t.all (fun x => m_P_is_name (Va.str x)) = true := List.all_eq_true.mpr fun x hx => hw x (ht x hx)
  unfold m_P_is_tale
  rw [loop_all (fun x => m_P_is_name (Va.str x)), ha, decide_eq_true (show (1 : Int) ≤ (t.length : Int) by omega), decide_eq_true (show (t.length : Int) ≤ 6 by omega)]
  rfl
theorem sightV {p : List Str} {w : Str} {h : Int} {t : List Str} (hw : w ∈ p) (hh : m_P_is_hour (Va.int h) = true) (ht : m_P_is_tale t = true) : m_P_is_sight (w, h, t) p = true := by
  unfold m_P_is_sight
  rw [tup_of3, hh, ht, decide_eq_true hw]
  rfl
theorem goodV_of {p : List Str} {s : List Sight} {t : List Talk} {y : List Sy} (n : NamesOk p) (hl : 1 ≤ p.length ∧ p.length ≤ 24) (hs : ∀ x ∈ s, m_P_is_sight x p = true) (ht : ∀ x ∈ t, m_P_is_talk x p = true) (hy : ∀ x ∈ y, m_P_is_saying x p = true) (l1 : s.length ≤ 24) (l2 : t.length ≤ 120) (l3 : y.length ≤ 60) : goodBook p s t y := by
  refine ⟨good_persons n hl, ?_, ?_, ?_⟩
  · unfold m_P_are_all_at_is_sight
    rw [loop_all (fun x => m_P_is_sight x p), List.all_eq_true.mpr hs, decide_eq_false (show ¬ (24 : Int) < (s.length : Int) by omega)]
    rfl
  · unfold m_P_are_all_at_is_talk
    rw [loop_all (fun x => m_P_is_talk x p), List.all_eq_true.mpr ht, decide_eq_false (show ¬ (120 : Int) < (t.length : Int) by omega)]
    rfl
  · unfold m_P_are_all_at_is_saying
    rw [loop_all (fun x => m_P_is_saying x p), List.all_eq_true.mpr hy, decide_eq_false (show ¬ (60 : Int) < (y.length : Int) by omega)]
    rfl
theorem sayV {p : List Str} {c f : Int} (nd : p.Nodup) (hp : 1 < p.length) (hf : 0 ≤ f ∧ f ≤ 2) : m_P_is_saying (m_L_saying c p f) p = true := by
  unfold m_L_saying
  simp only [lt]
  have h2 := twoV nd (i := m_L_mix c 5) (r := m_L_mix c 6 % ((p.length : Int) - 1)) hp ⟨Int.emod_nonneg _ (by omega), Int.emod_lt_of_pos _ (by omega)⟩
  have ho : nth p (m_L_mix c 5 % (p.length : Int)) ∈ p := nth_mem (inR_mod (by omega))
  generalize nth p (m_L_mix c 5 % (p.length : Int)) = one at h2 ho
  generalize nth p ((idxS p one + 1 + m_L_mix c 6 % ((p.length : Int) - 1)) % (p.length : Int)) = two at h2
  obtain ⟨a, b, hab, hs, ha, hb⟩ : ∃ a b : Int, a ≤ b ∧ srtD PyData.int [m_L_hour (m_L_mix c 7) f, m_L_hour (m_L_mix c 8) f] = [a, b] ∧ m_P_is_hour (Va.int a) = true ∧ m_P_is_hour (Va.int b) = true := by
    have hl : (srtD PyData.int [m_L_hour (m_L_mix c 7) f, m_L_hour (m_L_mix c 8) f]).length = 2 := srt_len
    have hpw := srt_pw PyData.int [m_L_hour (m_L_mix c 7) f, m_L_hour (m_L_mix c 8) f]
    have hmem : ∀ x ∈ srtD PyData.int [m_L_hour (m_L_mix c 7) f, m_L_hour (m_L_mix c 8) f], m_P_is_hour (Va.int x) = true := fun x hx => by
      rw [mem_srt] at hx
      rcases List.mem_cons.mp hx with rfl | hx
      · exact hourV hf
      · rw [List.mem_singleton.mp hx]; exact hourV hf
    generalize srtD PyData.int [m_L_hour (m_L_mix c 7) f, m_L_hour (m_L_mix c 8) f] = l at hl hpw hmem
    match l, hl with
    | [a, b], _ =>
      refine ⟨a, b, ?_, rfl, hmem a List.mem_cons_self, hmem b (List.mem_cons_of_mem _ List.mem_cons_self)⟩
      have h0 := (List.pairwise_cons.mp hpw).1 b List.mem_cons_self
      exact le_i62 h0
  rw [hs]
  have e0 : nth [a, b] 0 = a := rfl
  have e1 : nth [a, b] 1 = b := rfl
  rw [e0, e1]
  split
  · exact say_barred ho h2
  · split
    · exact say_silent ho ha hb hab
    · split
      · exact say_unheard ho fun i hi => by cases hi; exact ha
      · split
        · refine say_unheard ho fun i hi => ?_
          have hm := nth_mem (xs := [(none : Option Int), some a]) (i := m_L_mix c 10 % 2) (by show -2 ≤ _ ∧ _ < 2; omega)
          rw [hi] at hm
          simp only [List.mem_cons, List.not_mem_nil, or_false, Option.some.injEq] at hm
          rcases hm with h | h
          · cases h
          · rw [h]; exact ha
        · exact say_knew ho hb
def prodL (w : List Str) : Nat → List (List Str)
  | 0 => [[]]
  | n + 1 => w.flatMap fun x => (prodL w n).map fun l => x :: l
theorem prodL_mem {w : List Str} : ∀ {n : Nat} {l : List Str}, l ∈ prodL w n ↔ l.length = n ∧ ∀ x ∈ l, x ∈ w
  | 0, l => by
    rw [prodL, List.mem_singleton]
    constructor
    · rintro rfl; exact ⟨rfl, fun _ h => nomatch h⟩
    · rintro ⟨h, _⟩; exact List.length_eq_zero_iff.mp h
  | n + 1, l => by
    rw [prodL, List.mem_flatMap]
    constructor
    · rintro ⟨x, hx, h⟩
      obtain ⟨l', hl, rfl⟩ := List.mem_map.mp h
      obtain ⟨h1, h2⟩ := prodL_mem.mp hl
      refine ⟨by rw [List.length_cons, h1], fun y hy => ?_⟩
      rcases List.mem_cons.mp hy with rfl | hy
      · exact hx
      · exact h2 y hy
    · rintro ⟨h1, h2⟩
      match l, h1 with
      | x :: l', h1 => exact ⟨x, h2 x List.mem_cons_self, List.mem_map.mpr ⟨l', prodL_mem.mpr ⟨by rw [List.length_cons] at h1; omega, fun y hy => h2 y (List.mem_cons_of_mem _ hy)⟩, rfl⟩⟩
def talesV (w : List Str) : List (List Str) := prodL w 1 ++ (prodL w 2 ++ prodL w 3)
theorem talesV_mem {w l : List Str} : l ∈ talesV w ↔ (1 ≤ l.length ∧ l.length ≤ 3) ∧ ∀ x ∈ l, x ∈ w := by
  unfold talesV
  rw [List.mem_append, List.mem_append, prodL_mem, prodL_mem, prodL_mem]
  constructor
  · rintro (⟨a, b⟩ | ⟨a, b⟩ | ⟨a, b⟩) <;> exact ⟨by omega, b⟩
  · rintro ⟨⟨a1, a2⟩, b⟩
    have : l.length = 1 ∨ l.length = 2 ∨ l.length = 3 := by omega
    rcases this with h | h | h
    · exact .inl ⟨h, b⟩
    · exact .inr (.inl ⟨h, b⟩)
    · exact .inr (.inr ⟨h, b⟩)
theorem talesV_len (a b c : Str) : (talesV [a, b, c]).length = 39 := rfl
theorem talesV_39 {w : List Str} (h : w.length = 3) : (talesV w).length = 39 := by
  match w, h with
  | [a, b, c], _ => exact talesV_len a b c
def HabIn (h : Hab62) (w : List Str) : Prop := ∀ p, ∀ q ∈ (dFind h p).getD [], q.2 ∈ w
theorem pairs_from {α : Type} {l : List (Str × α)} {k : Str} {v : α} (h : dFind (ofPairs l) k = some v) : (k, v) ∈ l := by
  have key : ∀ (l s : List (Str × α)), dFind (l.foldl (fun s q => dPut s q.1 q.2) s) k = some v → (k, v) ∈ l ∨ dFind s k = some v := by
    intro l
    induction l with
    | nil => intro s h; exact .inr h
    | cons q l ih =>
      intro s h
      rw [List.foldl_cons] at h
      rcases ih _ h with h1 | h1
      · exact .inl (List.mem_cons_of_mem _ h1)
      · rw [find_put] at h1
        by_cases e : k = q.1
        · rw [if_pos e] at h1
          cases h1
          rw [e]
          exact .inl List.mem_cons_self
        · rw [if_neg e] at h1
          exact .inr h1
  rcases key l [] h with h1 | h1
  · exact h1
  · cases h1
theorem told_talesV {h : Hab62} {w : List Str} (hw : HabIn h w) {p : Str} {t : List Str} (ht : t ∈ talesV w) : m_P_as_told h p t ∈ talesV w := by
  rw [talesV_mem] at ht ⊢
  unfold m_P_as_told
  simp only [lt]
  rw [List.length_map]
  refine ⟨ht.1, fun x hx => ?_⟩
  obtain ⟨y, hy, rfl⟩ := List.mem_map.mp hx
  cases hf : dFind (ofPairs ((dFind h p).getD [])) y with
  | none => exact ht.2 y hy
  | some v => exact hw p (y, v) (pairs_from hf)
theorem hab_foldV {P : List (Str × Str) → Prop} {p w : List Str} {c : Int} (h0 : P []) (hp : ∀ (n u : Int), P ((enumL (cut w none (some u))).map fun e => (e.2, nth w (m_L_mix n e.1 % (w.length : Int))))) (x : Str) : P ((dFind (m_L_habits c p w) x).getD []) := by
  unfold m_L_habits
  simp only [lt]
  refine foldl_keep (P := fun s : List (Str × List (Str × Str)) => P ((dFind s x).getD [])) (fun s q h => ?_) h0
  split
  · rw [find_put]
    by_cases e : x = q.2
    · rw [if_pos e]; exact hp _ _
    · rw [if_neg e]; exact h
  · exact h
theorem hab_okV {p w : List Str} {c : Int} (hw : w.length ≤ 3) : HabOk (m_L_habits c p w) := by
  refine hab_foldV (P := fun l => l.length ≤ 20) (Nat.zero_le _) fun n u => ?_
  rw [List.length_map, enumL_len]
  exact Nat.le_trans cut_len (by omega)
theorem hab_inV {p w : List Str} {c : Int} (hw : 0 < w.length) : HabIn (m_L_habits c p w) w := fun x => by
  refine hab_foldV (P := fun l => ∀ q ∈ l, q.2 ∈ w) (fun _ h => nomatch h) (fun n u q hq => ?_) x
  obtain ⟨e, _, rfl⟩ := List.mem_map.mp hq
  exact nth_mem (inR_mod hw)
theorem hab_lenV {p w : List Str} {c : Int} : (m_L_habits c p w).length ≤ p.length := by
  unfold m_L_habits
  simp only [lt]
  refine Nat.le_trans (foldl_meas (m := fun s : List (Str × List (Str × Str)) => s.length) (c := 1) (fun s x => ?_)) ?_
  · split
    · exact dPut_len
    · exact Nat.le_succ _
  · rw [enumL_len]
    have e : ([] : List (Str × List (Str × Str))).length = 0 := rfl
    omega
theorem cut_nd {α : Type} {w : List α} (nd : w.Nodup) {a b : Option Int} : (cut w a b).Nodup := by
  unfold cut
  exact List.Nodup.sublist (List.take_sublist _ _) (List.Nodup.sublist (List.drop_sublist _ _) nd)
theorem cut3V {α : Type} {w : List α} (h : 3 ≤ w.length) : (cut w none (some 3)).length = 3 := by
  rw [cut_takeV (by omega), List.length_take]
  omega
theorem nth_cut3 {w : List Str} (h : 3 ≤ w.length) {i : Int} (hi : 0 ≤ i ∧ i < 3) : nth w i ∈ cut w none (some 3) := by
  rw [cut_takeV (by omega), nth_nat (by omega) (by omega), List.mem_iff_getElem]
  exact ⟨i.toNat, by rw [List.length_take]; omega, by rw [List.getElem_take]⟩
theorem sightsV {p w : List Str} {c f : Int} (np : 1 ≤ p.length) (hw : ∀ x ∈ w, m_P_is_name (Va.str x) = true) (h3 : 3 ≤ w.length) (hf : 0 ≤ f ∧ f ≤ 2) : (∀ x ∈ m_L_sights c p w f, m_P_is_sight x p = true ∧ x.2.2 ∈ talesV (cut w none (some 3))) ∧ (m_L_sights c p w f).length ≤ 4 := by
  have e : m_L_sights c p w f = (upto (1 + c % 3)).map fun k => (nth p (m_L_mix c (20 + k) / 3 % (p.length : Int)), m_L_hour (m_L_mix (m_L_mix c (20 + k)) 9) f, (upto (1 + m_L_mix c (20 + k) % 2)).map fun e => nth w (m_L_mix (m_L_mix c (20 + k)) e % 3)) := by
    have e0 : m_L_sights c p w f = (upto (1 + c % 3)).foldl (fun s k => s ++ [(nth p (m_L_mix c (20 + k) / 3 % (p.length : Int)), m_L_hour (m_L_mix (m_L_mix c (20 + k)) 9) f, (upto (1 + m_L_mix c (20 + k) % 2)).map fun e => nth w (m_L_mix (m_L_mix c (20 + k)) e % 3))]) [] := rfl
    rw [e0, foldl_keepF (g := fun k => [(nth p (m_L_mix c (20 + k) / 3 % (p.length : Int)), m_L_hour (m_L_mix (m_L_mix c (20 + k)) 9) f, (upto (1 + m_L_mix c (20 + k) % 2)).map fun e => nth w (m_L_mix (m_L_mix c (20 + k)) e % 3))]) (fun _ _ _ => rfl), List.nil_append, ← List.map_eq_flatMap]
  rw [e]
  refine ⟨fun t ht => ?_, by rw [List.length_map, upto_len]; omega⟩
  obtain ⟨k, _, rfl⟩ := List.mem_map.mp ht
  have ht : ((upto (1 + m_L_mix c (20 + k) % 2)).map fun e => nth w (m_L_mix (m_L_mix c (20 + k)) e % 3)) ∈ talesV (cut w none (some 3)) := by
    rw [talesV_mem, List.length_map, upto_len]
    refine ⟨by omega, fun x hx => ?_⟩
    obtain ⟨e, _, rfl⟩ := List.mem_map.mp hx
    exact nth_cut3 h3 (by omega)
  refine ⟨sightV (nth_mem (inR_mod (by omega))) (hourV hf) (taleV (w := cut w none (some 3)) (fun x hx => hw x (mem_cut hx)) ?_ ?_), ht⟩
  · have := (talesV_mem.mp ht).1
    omega
  · exact (talesV_mem.mp ht).2
theorem verOkV {p w : List Str} {s : List Sight} {t : List Talk} {y : List Sy} {h : Hab62} (bk : BkOk (m_P_Book p s t y)) (hp : p.length ≤ 7) (hw : w.length = 3) (hs : ∀ x ∈ s, x.2.2 ∈ talesV w) (hh : HabIn h w) : VerOk (m_P_Book p s t y) h := by
  refine ⟨bk, talesV w, hs, fun q t ht => told_talesV hh ht, ?_, fun t ht => ?_⟩
  · show p.length * _ ≤ 400
    rw [talesV_39 hw]
    omega
  · have := (talesV_mem.mp ht).1
    omega
theorem ltold_talesV {h : Hab62} {w : List Str} (hw : HabIn h w) {p : Str} {t : List Str} (ht : t ∈ talesV w) : m_L_told h p t ∈ talesV w := by
  have e : m_L_told h p t = t.map fun x => nth ((((dFind h p).getD []).filter fun e => decide (e.1 = x)).map (fun e => e.2) ++ [x]) 0 := by
    have e0 : m_L_told h p t = t.foldl (fun s x => s ++ [nth ((((dFind h p).getD []).filter fun e => decide (e.1 = x)).map (fun e => e.2) ++ [x]) 0]) [] := rfl
    rw [e0, foldl_keepF (g := fun x => [nth ((((dFind h p).getD []).filter fun e => decide (e.1 = x)).map (fun e => e.2) ++ [x]) 0]) (fun _ _ _ => rfl), List.nil_append, ← List.map_eq_flatMap]
  rw [e]
  rw [talesV_mem] at ht ⊢
  rw [List.length_map]
  refine ⟨ht.1, fun x hx => ?_⟩
  obtain ⟨y, hy, rfl⟩ := List.mem_map.mp hx
  have hm := nth_mem (xs := (((dFind h p).getD []).filter fun e => decide (e.1 = y)).map (fun e => e.2) ++ [y]) (i := 0) (by show _ ≤ _ ∧ _ < _; rw [List.length_append]; simp only [List.length_cons, List.length_nil]; omega)
  rcases List.mem_append.mp hm with h1 | h1
  · obtain ⟨q, hq, e2⟩ := List.mem_map.mp h1
    rw [← e2]
    exact hw p q (List.mem_filter.mp hq).1
  · rw [List.mem_singleton.mp h1]; exact ht.2 y hy
theorem hpOkV {p w : List Str} {s : List Sight} {t : List Talk} {y : List Sy} {h : Hab62} (g : goodBook p s t y) (hw : w.length = 3) (hs : ∀ x ∈ s, x.2.2 ∈ talesV w) (hh : HabIn h w) (ho : HabOk h) (l1 : t.length ≤ 100) (l2 : s.length ≤ 24) : HpOk (p, s, t, y) h := by
  have bk := bk_of g
  refine ⟨⟨p, talesV w, fun x hx => ⟨bk.see x hx, hs x hx⟩, fun x hx => bk.tk x hx, fun q t ht => ltold_talesV hh ht, ?_, fun t ht => ?_⟩, ho, l1, l2⟩
  · rw [talesV_39 hw]
    omega
  · have := (talesV_mem.mp ht).1
    omega
theorem fold_app_len {α β : Type} {g : β → α} : ∀ (xs : List β) (s0 : List α), (xs.foldl (fun s k => s ++ [g k]) s0).length = s0.length + xs.length
  | [], _ => rfl
  | x :: xs, s0 => by
    rw [List.foldl_cons, fold_app_len xs, List.length_append, List.length_cons]
    simp only [List.length_cons, List.length_nil]
    omega
theorem sightsV_pos (c : Int) (p w : List Str) (f : Int) : 1 ≤ (m_L_sights c p w f).length := by
  unfold m_L_sights
  simp only [lt]
  rw [fold_app_len, upto_len]
  omega
def m_L_traced (a_hops_here : (List (Int × (Int × Str × Str × (List Str)) × (List Str)))) (a_person : Str) (a_tale : (List Str)) (a_hour_here : Int) : (List (Int × Str × Str × (List Str))) :=
  lt (a_hops_here.reverse.foldl (fun (s_3 : (List (Int × (Int × Str × Str × (List Str)) × (List Str)))) (x_4 : (Int × (Int × Str × Str × (List Str)) × (List Str))) =>
    lt ((decide (x_4.2.1.2.2.1 = a_person)) && ((decide (x_4.2.2 = a_tale)) && (decide (x_4.1 ≤ a_hour_here)))) fun ends_15 =>
    lt ((s_3.filter fun e_16 => ((decide (e_16.2.1.2.1 = x_4.2.1.2.2.1)) && ((decide (e_16.2.1.2.2.2 = x_4.2.2)) && (decide (x_4.1 < e_16.1))))).map fun e_16 => e_16) fun on_22 =>
    (if (ends_15 || (!decide (on_22 = ([] : List (Int × (Int × Str × Str × (List Str)) × (List Str)))))) then
      lt (s_3 ++ [(x_4.1, x_4.2.1, x_4.2.2)]) fun good_26 =>
      good_26
    else
      s_3)) ([] : List (Int × (Int × Str × Str × (List Str)) × (List Str)))) fun (s_3 : (List (Int × (Int × Str × Str × (List Str)) × (List Str)))) =>
  (srtD (fun x : (Int × Str × Str × (List Str)) => PyData.tuple [PyData.int x.1, PyData.str x.2.1, PyData.str x.2.2.1, (fun xs => PyData.tuple (xs.map PyData.str)) x.2.2.2]) (s_3.map fun e_27 => e_27.2.1))
def m_L_right (a_book : ((List Str) × (List (Str × Int × (List Str))) × (List (Int × Str × Str × Str)) × (List Sy))) (a_habits_here : (List (Str × (List (Str × Str))))) (a_made : BookV) (a_hops_here : (List (Int × (Int × Str × Str × (List Str)) × (List Str)))) (a_case : (Str × (List Str) × Int)) : Bool :=
  lt (m_L_traced a_hops_here a_case.1 a_case.2.1 a_case.2.2) fun due_1 =>
  (if ((!true) || (!decide ((m_P_traced a_made a_habits_here a_case.1 a_case.2.1 a_case.2.2) = due_1))) then
    false
  else
  lp (loopL (R := Bool) (fun (s_7 : Unit) (x_8 : (Int × Str × Str × (List Str))) =>
    (if ((!true) || ((!true) || false)) then
      (Ret.rt false)
    else
      (Ret.nx ()))) (m_P_traced a_made a_habits_here a_case.1 a_case.2.1 a_case.2.2) ()) fun (s_7 : Unit) =>
  (decide ((m_P_traced a_made a_habits_here a_case.1 a_case.2.1 a_case.2.2) = due_1)))
def m_L_law (a_script : (List Int)) : Bool :=
  lt (m_L_mix ((cut a_script none (some (63 : Int))).sum) (1 : Int)) fun base_1 =>
  lt (m_L_names base_1 ((2 : Int) + (base_1 % (4 : Int)))) fun persons_2 =>
  lt (m_L_names (m_L_mix base_1 (2 : Int)) (4 : Int)) fun words_3 =>
  lt ((m_L_mix base_1 (3 : Int)) % (3 : Int)) fun far_4 =>
  lt (m_L_sights (m_L_mix (m_L_cell_at a_script (0 : Int)) (4 : Int)) persons_2 words_3 far_4) fun sights_here_5 =>
  lt (m_L_talks (cut a_script (some (1 : Int)) (some (19 : Int))) persons_2 far_4) fun talks_here_6 =>
  lt ((cut a_script (some (19 : Int)) (some (25 : Int))).map fun e_7 => (m_L_saying e_7 persons_2 far_4)) fun sayings_10 =>
  lt (m_L_habits (m_L_mix base_1 (5 : Int)) persons_2 (cut words_3 none (some (3 : Int)))) fun habits_here_11 =>
  lt ((kys habits_here_11).map fun e_12 => (e_12, (dGet habits_here_11 e_12))) fun same_15 =>
  lt (m_P_Book persons_2 sights_here_5 talks_here_6 sayings_10) fun made_16 =>
  lt (persons_2, sights_here_5, talks_here_6, sayings_10) fun book_17 =>
  lt (m_L_hops book_17 habits_here_11) fun hops_here_18 =>
  lt ((upto (imin (4 : Int) (hops_here_18.length : Int))).foldl (fun (s_21 : (List (Str × (List Str) × Int))) (x_22 : Int) =>
    lt (s_21 ++ [(((nth hops_here_18 ((m_L_mix base_1 ((30 : Int) + x_22)) % (hops_here_18.length : Int))).2.1).2.2.1, (nth hops_here_18 ((m_L_mix base_1 ((30 : Int) + x_22)) % (hops_here_18.length : Int))).2.2, (nth ([(nth hops_here_18 ((m_L_mix base_1 ((30 : Int) + x_22)) % (hops_here_18.length : Int))).1, (imax (0 : Int) ((nth hops_here_18 ((m_L_mix base_1 ((30 : Int) + x_22)) % (hops_here_18.length : Int))).1 - (1 : Int))), (1000000000000000000 : Int)]) ((m_L_mix base_1 ((40 : Int) + x_22)) % (3 : Int))))]) fun cases_30 =>
    cases_30) [((nth persons_2 (0 : Int)), (nth sights_here_5 (0 : Int)).2.2, (1000000000000000000 : Int)), ((nth persons_2 (-(1 : Int))), [(nth words_3 (3 : Int))], (1000000000000000000 : Int))]) fun (s_21 : (List (Str × (List Str) × Int))) =>
  lp (loopL (R := Bool) (fun (s_31 : Unit) (x_32 : (Str × (List Str) × Int)) =>
    (if (!(m_L_right book_17 habits_here_11 made_16 hops_here_18 x_32)) then
      (Ret.rt false)
    else
      (Ret.nx ()))) s_21 ()) fun (s_31 : Unit) =>
  (decide (((kys habits_here_11).map fun e_40 => (e_40, (dGet habits_here_11 e_40))) = same_15))
end Kn
namespace Kn
open PySem PySem.Spec L2
local macro_rules | `(tactic| trivial) => `(tactic| omega)
local macro_rules | `(tactic| trivial) => `(tactic| (unfold inR; omega))
local macro_rules | `(tactic| trivial) => `(tactic| (simp only [inR, sizeN, slen_app, signAt_len, upto_len, range2_len, enumL_len, signs_len, List.length_append, List.length_cons, List.length_nil, List.length_map] at *; omega))
local macro_rules | `(tactic| trivial) => `(tactic| (apply inR_mod; omega))
local macro_rules | `(tactic| trivial) => `(tactic| exact inR_bi)
local macro_rules | `(tactic| trivial) => `(tactic| (simp only [Bool.and_eq_true, Bool.or_eq_false_iff, decide_eq_true_eq, decide_eq_false_iff_not, Bool.not_eq_true', Bool.not_eq_false'] at *; omega))
local macro_rules | `(tactic| trivial) => `(tactic| (simp only [List.map_map, Function.comp_def, signAt_len, List.length_map, upto_len, List.map_const', List.sum_replicate_nat, empty_len]; omega))
local macro_rules | `(tactic| trivial) => `(tactic| (apply inR_mod; assumption))
local macro_rules | `(tactic| trivial) => `(tactic| assumption)
local macro_rules | `(tactic| trivial) => `(tactic| solve_by_elim)
local macro_rules | `(tactic| trivial) => `(tactic| (apply And.intro <;> assumption))
local macro_rules | `(tactic| trivial) => `(tactic| (show _ ∧ _; omega))
local macro_rules | `(tactic| trivial) => `(tactic| (apply has_srt; assumption))
local macro_rules | `(tactic| trivial) => `(tactic| (rw [srt_len]; unfold kys; rw [List.length_map]; omega))
local macro_rules | `(tactic| trivial) => `(tactic| (apply And.intro <;> first | assumption | omega | (apply And.intro <;> first | assumption | omega)))
local macro_rules | `(tactic| trivial) => `(tactic| (apply And.intro; assumption; apply wy_nsaw; assumption))
local macro_rules | `(tactic| trivial) => `(tactic| (simp only [List.length_reverse, List.length_append, sizeN] at *; omega))
local macro_rules | `(tactic| trivial) => `(tactic| (unfold kys; rw [List.length_map]; omega))
local macro_rules | `(tactic| trivial) => `(tactic| (apply mem_kys.mp; assumption))
local macro_rules | `(tactic| trivial) => `(tactic| (rw [enumL_len]; omega))
local macro_rules | `(tactic| trivial) => `(tactic| (unfold kys; rw [List.length_map, List.length_map]; omega))
local macro_rules | `(tactic| trivial) => `(tactic| (apply And.intro; assumption; apply lam_ok; assumption))
local macro_rules | `(tactic| trivial) => `(tactic| (rw [List.length_map]; apply Nat.lt_of_le_of_lt; apply vers_len; assumption; decide))
local macro_rules | `(tactic| trivial) => `(tactic| (apply And.intro; apply vers_len; assumption; assumption))
local macro_rules | `(tactic| trivial) => `(tactic| assumption)
local macro_rules | `(tactic| trivial) => `(tactic| (rw [List.length_map]; omega))
local macro_rules | `(tactic| trivial) => `(tactic| (refine Nat.le_trans (Nat.add_le_add (Nat.le_refl _) (Nat.le_trans (Nat.le_of_eq (List.length_map ..)) (List.length_filter_le _ _))) ?_; rw [sizeLine_eq]; omega))
def sp_L_mix (G : Cfg) : SpecD := fun ds O rk => ∃ (a_cell : Int) (a_k : Int), (0 ≤ a_k ∧ a_k ≤ 100000) ∧ ds = [dI a_cell, dI a_k] ∧ rk = RK.val (dI (m_L_mix a_cell a_k)) O
def sp_L_names (G : Cfg) : SpecD := fun ds O rk => ∃ (a_cell : Int) (a_many : Int), (0 ≤ a_many ∧ a_many ≤ 100) ∧ ds = [dI a_cell, dI a_many] ∧ rk = RK.val ((dLo G.K dS) (m_L_names a_cell a_many)) O
def sp_L_hour (G : Cfg) : SpecD := fun ds O rk => ∃ (a_cell : Int) (a_far : Int), (0 ≤ a_far ∧ a_far ≤ 2) ∧ ds = [dI a_cell, dI a_far] ∧ rk = RK.val (dI (m_L_hour a_cell a_far)) O
def sp_L_sights (G : Cfg) : SpecD := fun ds O rk => ∃ (a_cell : Int) (a_persons : (List Str)) (a_words : (List Str)) (a_far : Int), ((0 ≤ a_far ∧ a_far ≤ 2) ∧ 1 ≤ a_persons.length ∧ 3 ≤ a_words.length) ∧ ds = [dI a_cell, (dLo G.K dS) a_persons, (dLo G.K dS) a_words, dI a_far] ∧ rk = RK.val ((dLo G.K (dT3 G.K dS dI (dVt G.K dS))) (m_L_sights a_cell a_persons a_words a_far)) O
def sp_L_talks (G : Cfg) : SpecD := fun ds O rk => ∃ (a_cells : (List Int)) (a_persons : (List Str)) (a_far : Int), ((0 ≤ a_far ∧ a_far ≤ 2) ∧ 1 < a_persons.length ∧ a_cells.length ≤ 63) ∧ ds = [(dLo G.K dI) a_cells, (dLo G.K dS) a_persons, dI a_far] ∧ rk = RK.val ((dLo G.K (dT4 G.K dI dS dS dS)) (m_L_talks a_cells a_persons a_far)) O
def sp_L_habits (G : Cfg) : SpecD := fun ds O rk => ∃ (a_cell : Int) (a_persons : (List Str)) (a_words : (List Str)), (a_words.length = 3 ∧ a_persons.length ≤ 10) ∧ ds = [dI a_cell, (dLo G.K dS) a_persons, (dLo G.K dS) a_words] ∧ rk = RK.new ((fun r => oDc kS (dLo G.K (dT2 G.K dS dS)) r) (m_L_habits a_cell a_persons a_words)) O
def sp_P_is_name (G : Cfg) : SpecD := fun ds O rk => ∃ (a_thing : Va), (True) ∧ ds = [(dA G.K) a_thing] ∧ rk = RK.val (dB (m_P_is_name a_thing)) O
def sp_P_are_persons (G : Cfg) : SpecD := fun ds O rk => ∃ (a_thing : (List Str)), (True) ∧ ds = [(dLo G.K dS) a_thing] ∧ rk = RK.val (dB (m_P_are_persons a_thing)) O
def sp_P_is_tuple_of (G : Cfg) : SpecD := fun ds O rk => ∃ (a_thing : Va) (a_many : Int), (True) ∧ ds = [(dA G.K) a_thing, dI a_many] ∧ rk = RK.val (dB (m_P_is_tuple_of a_thing a_many)) O
def sp_P_is_whole (G : Cfg) : SpecD := fun ds O rk => ∃ (a_thing : Va), (True) ∧ ds = [(dA G.K) a_thing] ∧ rk = RK.val (dB (m_P_is_whole a_thing)) O
def sp_P_is_hour (G : Cfg) : SpecD := fun ds O rk => ∃ (a_thing : Va), (True) ∧ ds = [(dA G.K) a_thing] ∧ rk = RK.val (dB (m_P_is_hour a_thing)) O
def sp_P_is_tale (G : Cfg) : SpecD := fun ds O rk => ∃ (a_thing : (List Str)), (True) ∧ ds = [(dVt G.K dS) a_thing] ∧ rk = RK.val (dB (m_P_is_tale a_thing)) O
def sp_P_is_sight (G : Cfg) : SpecD := fun ds O rk => ∃ (a_thing : (Str × Int × (List Str))) (a_persons : (List Str)), (True) ∧ ds = [(dT3 G.K dS dI (dVt G.K dS)) a_thing, (dLo G.K dS) a_persons] ∧ rk = RK.val (dB (m_P_is_sight a_thing a_persons)) O
def sp_P_are_all_at_is_sight (G : Cfg) : SpecD := fun ds O rk => ∃ (a_thing : (List (Str × Int × (List Str)))) (a_most : Int) (a_persons : (List Str)), (True) ∧ ds = [(dLo G.K (dT3 G.K dS dI (dVt G.K dS))) a_thing, dI a_most, (dLo G.K dS) a_persons, dFn G 3 (sp_P_is_sight G)] ∧ rk = RK.val (dB (m_P_are_all_at_is_sight a_thing a_most a_persons)) O
def sp_P_are_two (G : Cfg) : SpecD := fun ds O rk => ∃ (a_one : Str) (a_other : Str) (a_persons : (List Str)), (True) ∧ ds = [dS a_one, dS a_other, (dLo G.K dS) a_persons] ∧ rk = RK.val (dB (m_P_are_two a_one a_other a_persons)) O
def sp_P_is_talk (G : Cfg) : SpecD := fun ds O rk => ∃ (a_thing : (Int × Str × Str × Str)) (a_persons : (List Str)), (True) ∧ ds = [(dT4 G.K dI dS dS dS) a_thing, (dLo G.K dS) a_persons] ∧ rk = RK.val (dB (m_P_is_talk a_thing a_persons)) O
def sp_P_are_all_at_is_talk (G : Cfg) : SpecD := fun ds O rk => ∃ (a_thing : (List (Int × Str × Str × Str))) (a_most : Int) (a_persons : (List Str)), (True) ∧ ds = [(dLo G.K (dT4 G.K dI dS dS dS)) a_thing, dI a_most, (dLo G.K dS) a_persons, dFn G 3 (sp_P_is_talk G)] ∧ rk = RK.val (dB (m_P_are_all_at_is_talk a_thing a_most a_persons)) O
def sp_P_is_saying (G : Cfg) : SpecD := fun ds O rk => ∃ (a_thing : Sy) (a_persons : (List Str)), (True) ∧ ds = [(dSy G.K) a_thing, (dLo G.K dS) a_persons] ∧ rk = RK.val (dB (m_P_is_saying a_thing a_persons)) O
def sp_P_are_all_at_is_saying (G : Cfg) : SpecD := fun ds O rk => ∃ (a_thing : (List Sy)) (a_most : Int) (a_persons : (List Str)), (True) ∧ ds = [(dLo G.K (dSy G.K)) a_thing, dI a_most, (dLo G.K dS) a_persons, dFn G 3 (sp_P_is_saying G)] ∧ rk = RK.val (dB (m_P_are_all_at_is_saying a_thing a_most a_persons)) O
def sp_P_Book (G : Cfg) : SpecD := fun ds O rk => ∃ (p : Addr) (O1 : Own) (a_persons : (List Str)) (a_sights : (List (Str × Int × (List Str)))) (a_talks : (List (Int × Str × Str × Str))) (a_sayings : (List Sy)), (goodBook a_persons a_sights a_talks a_sayings) ∧ O = (p, oIns G "Book" [] []) :: O1 ∧ ds = [dP p, (dLo G.K dS) a_persons, (dLo G.K (dT3 G.K dS dI (dVt G.K dS))) a_sights, (dLo G.K (dT4 G.K dI dS dS dS)) a_talks, (dLo G.K (dSy G.K)) a_sayings] ∧ rk = RK.unit ((p, oIns G "Book" bookNs (bookDs G.K (m_P_Book a_persons a_sights a_talks a_sayings))) :: O1)
def sp_P_Book_sights (G : Cfg) : SpecD := fun ds O rk => ∃ (a_self : BookV), (True) ∧ ds = [(dBook G) a_self] ∧ rk = RK.new ((fun r => oLst (List.map (dT3 G.K dS dI (dVt G.K dS)) r)) (m_P_Book_sights a_self)) O
def sp_P_Book_talks (G : Cfg) : SpecD := fun ds O rk => ∃ (a_self : BookV), (True) ∧ ds = [(dBook G) a_self] ∧ rk = RK.new ((fun r => oLst (List.map (dT4 G.K dI dS dS dS) r)) (m_P_Book_talks a_self)) O
def sp_P_Book_persons (G : Cfg) : SpecD := fun ds O rk => ∃ (a_self : BookV), (True) ∧ ds = [(dBook G) a_self] ∧ rk = RK.new ((fun r => oLst (List.map dS r)) (m_P_Book_persons a_self)) O
def sp_P_Book_sayings (G : Cfg) : SpecD := fun ds O rk => ∃ (a_self : BookV), (True) ∧ ds = [(dBook G) a_self] ∧ rk = RK.new ((fun r => oLst (List.map (dSy G.K) r)) (m_P_Book_sayings a_self)) O
def sp_P_greater_floor (G : Cfg) : SpecD := fun ds O rk => ∃ (a_one : (Option Int)) (a_other : (Option Int)), (True) ∧ ds = [(dO dI) a_one, (dO dI) a_other] ∧ rk = RK.val ((dO dI) (m_P_greater_floor a_one a_other)) O
def sp_P_floors (G : Cfg) : SpecD := fun ds O rk => ∃ (a_book : BookV), (BkOk a_book) ∧ ds = [(dBook G) a_book] ∧ rk = RK.new ((fun r => oDc kS (dO dI) r) (m_P_floors a_book)) O
def sp_P_spans_of (G : Cfg) : SpecD := fun ds O rk => ∃ (a_book : BookV), (BkOk a_book) ∧ ds = [(dBook G) a_book] ∧ rk = RK.val ((dDc kS (dLo G.K (dT2 G.K dI dI))) (m_P_spans_of a_book)) O
def sp_P_bars_of (G : Cfg) : SpecD := fun ds O rk => ∃ (a_book : BookV), (BkOk a_book) ∧ ds = [(dBook G) a_book] ∧ rk = RK.new ((fun r => oDt dB r) (m_P_bars_of a_book)) O
def sp_P_Book_tellings (G : Cfg) : SpecD := fun ds O rk => ∃ (a_self : BookV), (BkOk a_self) ∧ ds = [(dBook G) a_self] ∧ rk = RK.new ((fun r => oLst (List.map (dT3 G.K dI dS dS) r)) (m_P_Book_tellings a_self)) O
def sp_P_is_above (G : Cfg) : SpecD := fun ds O rk => ∃ (a_hour : Int) (a_floor : (Option Int)), (True) ∧ ds = [dI a_hour, (dO dI) a_floor] ∧ rk = RK.val (dB (m_P_is_above a_hour a_floor)) O
def sp_P_is_within (G : Cfg) : SpecD := fun ds O rk => ∃ (a_hour : Int) (a_spans : (List (Int × Int))), (True) ∧ ds = [dI a_hour, (dLo G.K (dT2 G.K dI dI)) a_spans] ∧ rk = RK.val (dB (m_P_is_within a_hour a_spans)) O
def sp_P_open_tellings (G : Cfg) : SpecD := fun ds O rk => ∃ (a_book : BookV), (BkOk a_book) ∧ ds = [(dBook G) a_book] ∧ rk = RK.new ((fun r => oLst (List.map (dT3 G.K dI dS dS) r)) (m_P_open_tellings a_book)) O
def sp_P_timed_tellings (G : Cfg) : SpecD := fun ds O rk => ∃ (a_book : BookV), (BkOk a_book) ∧ ds = [(dBook G) a_book] ∧ rk = RK.val ((dLo G.K (dT4 G.K dI dI dS dS)) (m_P_timed_tellings a_book)) O
def sp_P_as_told (G : Cfg) : SpecD := fun ds O rk => ∃ (a_habits : (List (Str × (List (Str × Str))))) (a_person : Str) (a_tale : (List Str)), (a_tale.length ≤ 100) ∧ ds = [(dDc kS (dLo G.K (dT2 G.K dS dS))) a_habits, dS a_person, (dVt G.K dS) a_tale] ∧ rk = RK.val ((dVt G.K dS) (m_P_as_told a_habits a_person a_tale)) O
def sp_P_heard_by (G : Cfg) : SpecD := fun ds O rk => ∃ (n_known : Nat) (p_known : Addr) (a_known : (List ((Str × (List Str)) × Int))) (a_habits : (List (Str × (List (Str × Str))))) (a_step : (Int × Int × Str × Str)), (a_known.length ≤ 400 ∧ ∀ q ∈ a_known, q.1.2.length ≤ 100) ∧ O[n_known]? = some (p_known, oDn G knST (dT2 G.K dS (dVt G.K dS)) dI p_known a_known) ∧ ds = [dP p_known, (dDc kS (dLo G.K (dT2 G.K dS dS))) a_habits, (dT4 G.K dI dI dS dS) a_step] ∧ rk = RK.val ((dLo G.K (dT2 G.K (dVt G.K dS) (dVt G.K dS))) (m_P_heard_by a_known a_habits a_step)) O
def sp_P_open_sights (G : Cfg) : SpecD := fun ds O rk => ∃ (a_book : BookV), (BkOk a_book) ∧ ds = [(dBook G) a_book] ∧ rk = RK.new ((fun r => oLst (List.map dI r)) (m_P_open_sights a_book)) O
def sp_P_earliest_versions (G : Cfg) : SpecD := fun ds O rk => ∃ (a_book : BookV) (a_habits : (List (Str × (List (Str × Str))))), (VerOk a_book a_habits ∧ LamOk G "earliest_versions" O) ∧ ds = [(dBook G) a_book, (dDc kS (dLo G.K (dT2 G.K dS dS))) a_habits] ∧ rk = RK.val ((dDn G knST (dT2 G.K dS (dVt G.K dS)) dI) (m_P_earliest_versions a_book a_habits)) O
def sp_P_heard_by_at_f (G : Cfg) : SpecD := fun ds O rk => ∃ (a_known : (List ((Str × (List Str)) × Int))) (a_habits : (List (Str × (List (Str × Str))))) (a_step : (Int × Int × Str × Str)), (a_known.length ≤ 400 ∧ ∀ q ∈ a_known, q.1.2.length ≤ 100) ∧ ds = [(dDn G knST (dT2 G.K dS (dVt G.K dS)) dI) a_known, (dDc kS (dLo G.K (dT2 G.K dS dS))) a_habits, (dT4 G.K dI dI dS dS) a_step] ∧ rk = RK.val ((dLo G.K (dT2 G.K (dVt G.K dS) (dVt G.K dS))) (m_P_heard_by_at_f a_known a_habits a_step)) O
def sp_P_traced (G : Cfg) : SpecD := fun ds O rk => ∃ (a_book : BookV) (a_habits : (List (Str × (List (Str × Str))))) (a_person : Str) (a_tale : (List Str)) (a_hour : Int), (VerOk a_book a_habits ∧ LamOk G "earliest_versions" O) ∧ ds = [(dBook G) a_book, (dDc kS (dLo G.K (dT2 G.K dS dS))) a_habits, dS a_person, (dVt G.K dS) a_tale, dI a_hour] ∧ rk = RK.new ((fun r => oLst (List.map (dT4 G.K dI dS dS (dVt G.K dS)) r)) (m_P_traced a_book a_habits a_person a_tale a_hour)) O
def sp_L_floor (G : Cfg) : SpecD := fun ds O rk => ∃ (a_sayings : (List Sy)) (a_person : Str), (True) ∧ ds = [(dLo G.K (dSy G.K)) a_sayings, dS a_person] ∧ rk = RK.val ((dO dI) (m_L_floor a_sayings a_person)) O
def sp_L_seen (G : Cfg) : SpecD := fun ds O rk => ∃ (a_sights_here : (List (Str × Int × (List Str)))) (a_sayings : (List Sy)), (a_sights_here.length ≤ 100) ∧ ds = [(dLo G.K (dT3 G.K dS dI (dVt G.K dS))) a_sights_here, (dLo G.K (dSy G.K)) a_sayings] ∧ rk = RK.val ((dLo G.K (dT3 G.K dS dI (dVt G.K dS))) (m_L_seen a_sights_here a_sayings)) O
def sp_L_shut (G : Cfg) : SpecD := fun ds O rk => ∃ (a_sayings : (List Sy)) (a_hour_here : Int) (a_teller : Str) (a_hearer : Str), (True) ∧ ds = [(dLo G.K (dSy G.K)) a_sayings, dI a_hour_here, dS a_teller, dS a_hearer] ∧ rk = RK.val (dB (m_L_shut a_sayings a_hour_here a_teller a_hearer)) O
def sp_L_open (G : Cfg) : SpecD := fun ds O rk => ∃ (a_talks_here : (List (Int × Str × Str × Str))) (a_sayings : (List Sy)), (a_talks_here.length ≤ 100) ∧ ds = [(dLo G.K (dT4 G.K dI dS dS dS)) a_talks_here, (dLo G.K (dSy G.K)) a_sayings] ∧ rk = RK.val ((dLo G.K (dT3 G.K dI dS dS)) (m_L_open a_talks_here a_sayings)) O
def sp_L_told (G : Cfg) : SpecD := fun ds O rk => ∃ (a_habits_here : (List (Str × (List (Str × Str))))) (a_person : Str) (a_tale : (List Str)), (HabOk a_habits_here ∧ a_tale.length ≤ 100) ∧ ds = [(dDc kS (dLo G.K (dT2 G.K dS dS))) a_habits_here, dS a_person, (dVt G.K dS) a_tale] ∧ rk = RK.val ((dVt G.K dS) (m_L_told a_habits_here a_person a_tale)) O
def sp_L_hops (G : Cfg) : SpecD := fun ds O rk => ∃ (a_book : ((List Str) × (List (Str × Int × (List Str))) × (List (Int × Str × Str × Str)) × (List Sy))) (a_habits_here : (List (Str × (List (Str × Str))))), (HpOk a_book a_habits_here) ∧ ds = [(dT4 G.K (dLo G.K dS) (dLo G.K (dT3 G.K dS dI (dVt G.K dS))) (dLo G.K (dT4 G.K dI dS dS dS)) (dLo G.K (dSy G.K))) a_book, (dDc kS (dLo G.K (dT2 G.K dS dS))) a_habits_here] ∧ rk = RK.val ((dLo G.K (dT3 G.K dI (dT4 G.K dI dS dS (dVt G.K dS)) (dVt G.K dS))) (m_L_hops a_book a_habits_here)) O
def sp_L_saying (G : Cfg) : SpecD := fun ds O rk => ∃ (a_cell : Int) (a_persons : (List Str)) (a_far : Int), ((0 ≤ a_far ∧ a_far ≤ 2) ∧ 1 < a_persons.length) ∧ ds = [dI a_cell, (dLo G.K dS) a_persons, dI a_far] ∧ rk = RK.val ((dSy G.K) (m_L_saying a_cell a_persons a_far)) O
def sp_L_cell_at (G : Cfg) : SpecD := fun ds O rk => ∃ (a_script : (List Int)) (a_k : Int), (0 ≤ a_k) ∧ ds = [(dLo G.K dI) a_script, dI a_k] ∧ rk = RK.val (dI (m_L_cell_at a_script a_k)) O
def sp_L_traced (G : Cfg) : SpecD := fun ds O rk => ∃ (a_hops_here : (List (Int × (Int × Str × Str × (List Str)) × (List Str)))) (a_person : Str) (a_tale : (List Str)) (a_hour_here : Int), (a_hops_here.length ≤ 12000) ∧ ds = [(dLo G.K (dT3 G.K dI (dT4 G.K dI dS dS (dVt G.K dS)) (dVt G.K dS))) a_hops_here, dS a_person, (dVt G.K dS) a_tale, dI a_hour_here] ∧ rk = RK.val ((dLo G.K (dT4 G.K dI dS dS (dVt G.K dS))) (m_L_traced a_hops_here a_person a_tale a_hour_here)) O
def sp_L_right (G : Cfg) : SpecD := fun ds O rk => ∃ (a_book : ((List Str) × (List (Str × Int × (List Str))) × (List (Int × Str × Str × Str)) × (List Sy))) (a_habits_here : (List (Str × (List (Str × Str))))) (a_made : BookV) (a_hops_here : (List (Int × (Int × Str × Str × (List Str)) × (List Str)))) (a_case : (Str × (List Str) × Int)), ((a_hops_here.length ≤ 12000 ∧ VerOk a_made a_habits_here) ∧ LamOk G "earliest_versions" O) ∧ ds = [(dT4 G.K (dLo G.K dS) (dLo G.K (dT3 G.K dS dI (dVt G.K dS))) (dLo G.K (dT4 G.K dI dS dS dS)) (dLo G.K (dSy G.K))) a_book, (dDc kS (dLo G.K (dT2 G.K dS dS))) a_habits_here, (dBook G) a_made, (dLo G.K (dT3 G.K dI (dT4 G.K dI dS dS (dVt G.K dS)) (dVt G.K dS))) a_hops_here, (dT3 G.K dS (dVt G.K dS) dI) a_case] ∧ rk = RK.val (dB (m_L_right a_book a_habits_here a_made a_hops_here a_case)) O
structure All (G : Cfg) : Prop where
  d_L_mix : Def G "_law_mix" (top 47)
  d_L_names : Def G "_law_names" (top 48)
  d_L_hour : Def G "_law_hour" (top 49)
  d_L_sights : Def G "_law_sights" (top 58)
  d_L_talks : Def G "_law_talks" (top 50)
  d_L_habits : Def G "_law_habits" (top 57)
  d_P_is_name : Def G "is_name" (top 29)
  d_P_are_persons : Def G "are_persons" (top 37)
  d_P_is_tuple_of : Def G "is_tuple_of" (top 36)
  d_P_is_whole : Def G "is_whole" (top 27)
  d_P_is_hour : Def G "is_hour" (top 28)
  d_P_is_tale : Def G "is_tale" (top 38)
  d_P_is_sight : Def G "is_sight" (top 39)
  d_P_are_all : Def G "are_all" (top 43)
  d_P_are_two : Def G "are_two" (top 40)
  d_P_is_talk : Def G "is_talk" (top 41)
  d_P_is_saying : Def G "is_saying" (top 42)
  d_P_greater_floor : Def G "greater_floor" (top 2)
  d_P_floors : Def G "floors" (top 3)
  d_P_spans_of : Def G "spans_of" (top 6)
  d_P_bars_of : Def G "bars_of" (top 7)
  d_P_is_above : Def G "is_above" (top 4)
  d_P_is_within : Def G "is_within" (top 8)
  d_P_open_tellings : Def G "open_tellings" (top 9)
  d_P_timed_tellings : Def G "timed_tellings" (top 18)
  d_P_as_told : Def G "as_told" (top 15)
  d_P_heard_by : Def G "heard_by" (top 19)
  d_P_open_sights : Def G "open_sights" (top 5)
  d_P_earliest_versions : Def G "earliest_versions" (top 20)
  d_P_traced : Def G "traced" (top 21)
  d_L_floor : Def G "_law_floor" (top 52)
  d_L_seen : Def G "_law_seen" (top 55)
  d_L_shut : Def G "_law_shut" (top 53)
  d_L_open : Def G "_law_open" (top 54)
  d_L_told : Def G "_law_told" (top 56)
  d_L_hops : Def G "_law_hops" (top 59)
  d_L_saying : Def G "_law_saying" (top 51)
  d_L_cell_at : Def G "_law_cell_at" (top 46)
  d_L_traced : Def G "_law_traced" (top 60)
  d_L_right : Def G "_law_right" (top 61)
  d_L_law : Def G "law" (top 62)
  d_P_Book_sights : DefM G "Book" "sights" "Book.sights" (inClass (top 44) 2)
  d_P_Book_talks : DefM G "Book" "talks" "Book.talks" (inClass (top 44) 3)
  d_P_Book_persons : DefM G "Book" "persons" "Book.persons" (inClass (top 44) 1)
  d_P_Book_sayings : DefM G "Book" "sayings" "Book.sayings" (inClass (top 44) 4)
  d_P_Book_tellings : DefM G "Book" "tellings" "Book.tellings" (inClass (top 44) 9)
  i_Book : DefI G "Book" "Book.__init__" (inClass (top 44) 0)
  a_Book_claims : NoAt G "Book" "claims"
  a_Book_crew : NoAt G "Book" "crew"
  a_Book_meetings : NoAt G "Book" "meetings"
  a_Book_views : NoAt G "Book" "views"
  b_bool : G.mg "bool" = none
  b_dict : G.mg "dict" = none
  b_enumerate : G.mg "enumerate" = none
  b_int : G.mg "int" = none
  b_isinstance : G.mg "isinstance" = none
  b_len : G.mg "len" = none
  b_list : G.mg "list" = none
  b_max : G.mg "max" = none
  b_min : G.mg "min" = none
  b_range : G.mg "range" = none
  b_reversed : G.mg "reversed" = none
  b_set : G.mg "set" = none
  b_sorted : G.mg "sorted" = none
  b_str : G.mg "str" = none
  b_sum : G.mg "sum" = none
  b_tuple : G.mg "tuple" = none
  c_KEPT_WORDS : ∃ p, G.mg "KEPT_WORDS" = some (.ref p) ∧ ∀ H, SqT G.K H p (K_KEPT_WORDS.map V.str)
  c_LAST_HOUR : ∃ t, G.mg "LAST_HOUR" = some (.int 1000000000000000000 t)
  c_LETTERS : ∃ t, G.mg "LETTERS" = some (.str K_LETTERS t)
  c_LONGEST : ∃ t, G.mg "LONGEST" = some (.int 12 t)
  c_MOST_PERSONS : ∃ t, G.mg "MOST_PERSONS" = some (.int 24 t)
  c_MOST_SAYINGS : ∃ t, G.mg "MOST_SAYINGS" = some (.int 60 t)
  c_MOST_SIGHTS : ∃ t, G.mg "MOST_SIGHTS" = some (.int 24 t)
  c_MOST_TALKS : ∃ t, G.mg "MOST_TALKS" = some (.int 120 t)
  c_MOST_VERSIONS : ∃ t, G.mg "MOST_VERSIONS" = some (.int 400 t)
  c_MOST_WORDS : ∃ t, G.mg "MOST_WORDS" = some (.int 6 t)
def N_L_mix : List Str := ["_law_cell", "_law_k", "_law_some"]
def C_L_mix : Sc := ⟨0, N_L_mix, defScope (top 47), true, true⟩
instance : Calm C_L_mix := ⟨rfl⟩
theorem V_L_mix_0 : Var C_L_mix 0 "_law_cell" := var_of (by decide +kernel)
theorem V_L_mix_1 : Var C_L_mix 1 "_law_k" := var_of (by decide +kernel)
theorem V_L_mix_2 : Var C_L_mix 2 "_law_some" := var_of (by decide +kernel)
theorem S_L_mix_2 : Loca C_L_mix 2 "_law_some" := loc_of (by decide +kernel)
theorem b_L_mix {G : Cfg} (A : All G) (O : Own) (a_cell : Int) (a_k : Int) (hpre : 0 ≤ a_k ∧ a_k ≤ 100000) : SS G C_L_mix (defBody (top 47)) (frame0 N_L_mix [dI a_cell, dI a_k]) O (fnV dI O) (.rt (m_L_mix a_cell a_k)) := by
  unfold m_L_mix
  have hmq := mix_sq hpre
  refine ss_fr70 (Γ1 := [some (dI a_cell), some (dI a_k), none]) (by exact ⟨.inr rfl, .inr rfl, .inl rfl, trivial⟩) ?_
  refine ss_asg (f := dI) .rt S_L_mix_2 (fun _ => rfl) (e_add (e_add (e_mod (e_var V_L_mix_0 rfl) e_int (by trivial)) (e_mulR (e_mulL e_int (e_var V_L_mix_1 rfl) (by trivial)) (e_var V_L_mix_1 rfl) (by trivial))) e_int) ?_
  intro some_1 hsome_1
  have hsm : 0 ≤ some_1 ∧ some_1 ≤ 400000000000 := by rw [hsome_1]; omega
  exact ss_ret (e_mod (e_mulR (e_mod (e_mulR (e_var V_L_mix_2 rfl) (e_var V_L_mix_2 rfl) (by trivial)) e_int (by trivial)) (e_add (e_var V_L_mix_1 rfl) e_int) (by trivial)) e_int (by trivial)) (fun _ _ _ h => h)
theorem k_L_mix {G : Cfg} (A : All G) : Callee G 1 "_law_mix" (sp_L_mix G) := by
  refine A.d_L_mix.callee (N := N_L_mix) (ps := ["_law_cell", "_law_k"]) (scope_of rfl rfl rfl (by decide +kernel)) (fun ds O rk h => ?_) (fun _ _ _ _ _ _ us hl => match us, hl with | [_, _], _ => rfl) (fun ds O rk h => ?_)
  · obtain ⟨a_cell, a_k, hp, rfl, rfl⟩ := h; rfl
  · obtain ⟨a_cell, a_k, hp, rfl, rfl⟩ := h; exact ⟨_, _, _, _, b_L_mix A O a_cell a_k hp, rfl⟩
def N_L_names : List Str := ["_law_cell", "_law_many", "_law_letters", "_law_size", "_law_at", "_law_names_here", "_law_k", "_law_name", "_law_j", "_law_step"]
def C_L_names : Sc := ⟨0, N_L_names, defScope (top 48), true, true⟩
instance : Calm C_L_names := ⟨rfl⟩
theorem V_L_names_0 : Var C_L_names 0 "_law_cell" := var_of (by decide +kernel)
theorem V_L_names_1 : Var C_L_names 1 "_law_many" := var_of (by decide +kernel)
theorem V_L_names_2 : Var C_L_names 2 "_law_letters" := var_of (by decide +kernel)
theorem V_L_names_3 : Var C_L_names 3 "_law_size" := var_of (by decide +kernel)
theorem V_L_names_4 : Var C_L_names 4 "_law_at" := var_of (by decide +kernel)
theorem V_L_names_5 : Var C_L_names 5 "_law_names_here" := var_of (by decide +kernel)
theorem V_L_names_6 : Var C_L_names 6 "_law_k" := var_of (by decide +kernel)
theorem V_L_names_7 : Var C_L_names 7 "_law_name" := var_of (by decide +kernel)
theorem V_L_names_8 : Var C_L_names 8 "_law_j" := var_of (by decide +kernel)
theorem V_L_names_9 : Var C_L_names 9 "_law_step" := var_of (by decide +kernel)
theorem S_L_names_2 : Loca C_L_names 2 "_law_letters" := loc_of (by decide +kernel)
theorem S_L_names_3 : Loca C_L_names 3 "_law_size" := loc_of (by decide +kernel)
theorem S_L_names_4 : Loca C_L_names 4 "_law_at" := loc_of (by decide +kernel)
theorem S_L_names_5 : Loca C_L_names 5 "_law_names_here" := loc_of (by decide +kernel)
theorem S_L_names_6 : Loca C_L_names 6 "_law_k" := loc_of (by decide +kernel)
theorem S_L_names_7 : Loca C_L_names 7 "_law_name" := loc_of (by decide +kernel)
theorem S_L_names_8 : Loca C_L_names 8 "_law_j" := loc_of (by decide +kernel)
theorem S_L_names_9 : Loca C_L_names 9 "_law_step" := loc_of (by decide +kernel)
theorem G_L_names_int : Glo C_L_names "int" := glo_of (by decide +kernel)
theorem G_L_names_range : Glo C_L_names "range" := glo_of (by decide +kernel)
theorem b_L_names {G : Cfg} (A : All G) (O : Own) (a_cell : Int) (a_many : Int) (hpre : 0 ≤ a_many ∧ a_many ≤ 100) : SS G C_L_names (defBody (top 48)) (frame0 N_L_names [dI a_cell, dI a_many]) O (fnV (dLo G.K dS) O) (.rt (m_L_names a_cell a_many)) := by
  unfold m_L_names
  have hn0 : ([] : List Str).length = 0 := rfl
  refine ss_fr70 (Γ1 := [some (dI a_cell), some (dI a_many), none, none, none, none, none, none, none, none]) (by exact ⟨.inr rfl, .inr rfl, .inl rfl, .inl rfl, .inl rfl, .inl rfl, .inl rfl, .inl rfl, .inl rfl, .inl rfl, trivial⟩) ?_
  refine ss_asg (f := dS) .rt S_L_names_2 (fun _ => rfl) e_str ?_
  intro letters_1 hletters_1
  have hletters_1_l : letters_1.length = 20 := by rw [hletters_1]; decide +kernel
  refine ss_asg (f := dI) .rt S_L_names_3 (fun _ => rfl) (e_add e_int (e_mod (e_var V_L_names_0 rfl) e_int (by trivial))) ?_
  intro size_2 hsize_2
  refine ss_fr70 (Γ1 := [some (dI a_cell), some (dI a_many), some (dS letters_1), some (dI size_2), none, none, none, none, none, none]) (by exact ⟨.inr rfl, .inr rfl, .inr rfl, .inr rfl, .inl rfl, .inl rfl, .inl rfl, .inl rfl, .inl rfl, .inl rfl, trivial⟩) ?_
  refine ss_asg (f := dI) .rt S_L_names_4 (fun _ => rfl) (e_mod (e_divS (e_var V_L_names_0 rfl) e_int (by trivial)) (e_var V_L_names_3 rfl) (by trivial)) ?_
  intro at_3 hat_3
  refine ss_new (od := oLst (([] : List Str).map dS)) S_L_names_5 (fun _ => rfl) (en_list (ds := []) a_nil (Nat.le_of_ble_eq_true rfl)) ?_
  intro p_names_here_4
  refine ss_fr70 (Γ1 := [some (dI a_cell), some (dI a_many), some (dS letters_1), some (dI size_2), some (dI at_3), some (dP p_names_here_4), none, none, none, none]) (by exact ⟨.inr rfl, .inr rfl, .inr rfl, .inr rfl, .inr rfl, .inr rfl, .inl rfl, .inl rfl, .inl rfl, .inl rfl, trivial⟩) ?_
  refine ss_fold (Γ := [some (dI a_cell), some (dI a_many), some (dS letters_1), some (dI size_2), some (dI at_3), some (dP p_names_here_4), none, none, none, none]) (df := dI) (s0 := ([] : List Str)) .rt (fun s_6 : (List Str) => [some (dI a_cell), some (dI a_many), some (dS letters_1), some (dI size_2), some (dI at_3), some (dP p_names_here_4), none, none, none, none]) (fun (s_6 : (List Str)) (x_7 : Int) => ([some (dI a_cell), some (dI a_many), some (dS letters_1), some (dI size_2), some (dI at_3), some (dP p_names_here_4), none, none, none, none]).set 6 (some (dI x_7))) (fun s_6 : (List Str) => ((p_names_here_4, oLst (s_6.map dS)) :: O)) (ei_range G_L_names_range A.b_range (e_var V_L_names_1 rfl) (by first | omega | trivial) (fun _ => rfl)) (by exact ⟨.inr rfl, .inr rfl, .inr rfl, .inr rfl, .inr rfl, .inr rfl, .inl rfl, .inl rfl, .inl rfl, .inl rfl, trivial⟩) rfl (fun _ => trivial) (fun s_6 x_7 => (tj_name S_L_names_6)) ?_ ?_ (fun _ _ => rfl)
  ·
    intro s_6 x_7 pre_8 post_9 hs_10 hf_11
    have hm_12 : x_7 ∈ (upto a_many) := by rw [hs_10]; simp
    have := mem_upto hm_12
    have hpl_13 : pre_8.length < ((upto a_many)).length := by rw [hs_10, List.length_append, List.length_cons]; omega
    rw [upto_len] at hpl_13
    have hgrow_14 : (s_6).length ≤ (([] : List Str)).length + 1 * pre_8.length := by
      rw [hf_11]
      refine foldl_meas (m := fun s_6 : (List Str) => (s_6).length) ?_ (s0 := ([] : List Str))
      intro _ _
      first | exact app_le | exact putIf_len | (simp only [lt]; exact dPut_len) | (simp only [lt]; split <;> first | exact dPut_len | omega) | ((try simp only [lt]); (repeat' split) <;> first | exact dPut_len | exact Nat.le_succ _) | (simp only [lt, slen_app, signAt_len, List.length_append, List.length_cons, List.length_nil]; omega) | ((try simp only [lt]); (repeat' split) <;> ((try simp only [lt, slen_app, signAt_len, List.length_append, List.length_cons, List.length_nil]); omega))
    refine ss_asg (f := dS) .nx S_L_names_7 (fun _ => rfl) e_str ?_
    intro name_15 hname_15
    have hname_15_l : name_15.length = 0 := by rw [hname_15]; decide +kernel
    refine ss_fold (Γ := [some (dI a_cell), some (dI a_many), some (dS letters_1), some (dI size_2), some (dI at_3), some (dP p_names_here_4), some (dI x_7), some (dS name_15), none, none]) (df := dI) (s0 := name_15) .nx (fun s_16 : Str => [some (dI a_cell), some (dI a_many), some (dS letters_1), some (dI size_2), some (dI at_3), some (dP p_names_here_4), some (dI x_7), some (dS s_16), none, none]) (fun (s_16 : Str) (x_17 : Int) => ([some (dI a_cell), some (dI a_many), some (dS letters_1), some (dI size_2), some (dI at_3), some (dP p_names_here_4), some (dI x_7), some (dS s_16), none, none]).set 8 (some (dI x_17))) (fun s_16 : Str => ((p_names_here_4, oLst (s_6.map dS)) :: O)) (ei_range G_L_names_range A.b_range (e_var V_L_names_3 rfl) (by first | omega | trivial) (fun _ => rfl)) (by exact ⟨.inr rfl, .inr rfl, .inr rfl, .inr rfl, .inr rfl, .inr rfl, .inr rfl, .inr rfl, .inl rfl, .inl rfl, trivial⟩) rfl (fun _ => trivial) (fun s_16 x_17 => (tj_name S_L_names_8)) ?_ ?_ (fun _ _ => rfl)
    ·
      intro s_16 x_17 pre_18 post_19 hs_20 hf_21
      have hm_22 : x_17 ∈ (upto size_2) := by rw [hs_20]; simp
      have := mem_upto hm_22
      have hpl_23 : pre_18.length < ((upto size_2)).length := by rw [hs_20, List.length_append, List.length_cons]; omega
      rw [upto_len] at hpl_23
      have hgrow_24 : (s_16).length ≤ (name_15).length + 1 * pre_18.length := by
        rw [hf_21]
        refine foldl_meas (m := fun s_16 : Str => (s_16).length) ?_ (s0 := name_15)
        intro _ _
        first | exact app_le | exact putIf_len | (simp only [lt]; exact dPut_len) | (simp only [lt]; split <;> first | exact dPut_len | omega) | ((try simp only [lt]); (repeat' split) <;> first | exact dPut_len | exact Nat.le_succ _) | (simp only [lt, slen_app, signAt_len, List.length_append, List.length_cons, List.length_nil]; omega) | ((try simp only [lt]); (repeat' split) <;> ((try simp only [lt, slen_app, signAt_len, List.length_append, List.length_cons, List.length_nil]); omega))
      have hbi1 : 0 ≤ bi (decide (x_17 = at_3)) ∧ bi (decide (x_17 = at_3)) ≤ 1 := by cases decide (x_17 = at_3) <;> decide
      refine ss_asg (f := dI) .nx S_L_names_9 (fun _ => rfl) (e_add (e_mulR (e_var V_L_names_8 rfl) (e_var V_L_names_8 rfl) (by trivial)) (e_mulR (e_mulL e_int (e_var V_L_names_6 rfl) (by trivial)) (e_callT k_intB2 G_L_names_int A.b_int bt_int (a_cons (e_cmp c_eqI (e_var V_L_names_8 rfl) (e_var V_L_names_4 rfl) rfl) a_nil (fun _ => rfl)) (fun _ => rfl)) (by trivial))) ?_
      intro step_25 hstep_25
      refine ss_asg (f := dS) .nx S_L_names_7 (fun _ => rfl) (e_addS (e_var V_L_names_7 rfl) (e_ixS (e_var V_L_names_2 rfl) (e_mod (e_add (e_divS (e_var V_L_names_0 rfl) e_int (by trivial)) (e_var V_L_names_9 rfl)) e_int (by trivial)) (by trivial) (fun _ _ => rfl)) (by trivial)) ?_
      intro name_26 hname_26
      exact ss_end (hold_end (by exact ⟨.inr rfl, .inr rfl, .inr rfl, .inr rfl, .inr rfl, .inr rfl, .inr rfl, .inr rfl, .inl rfl, .inl rfl, trivial⟩))
    intro s_16 he_L1
    have hgrow_30 : (s_16).length ≤ (name_15).length + 1 * ((upto size_2)).length := by
      rw [he_L1]
      refine foldl_meas (m := fun s_16 : Str => (s_16).length) ?_ (s0 := name_15)
      intro _ _
      first | exact app_le | exact putIf_len | (simp only [lt]; exact dPut_len) | (simp only [lt]; split <;> first | exact dPut_len | omega) | ((try simp only [lt]); (repeat' split) <;> first | exact dPut_len | exact Nat.le_succ _) | (simp only [lt, slen_app, signAt_len, List.length_append, List.length_cons, List.length_nil]; omega) | ((try simp only [lt]); (repeat' split) <;> ((try simp only [lt, slen_app, signAt_len, List.length_append, List.length_cons, List.length_nil]); omega))
    rw [upto_len] at hgrow_30
    refine ss_app (f := dS) (xs := s_6) (y := s_16) (n := 0) .nx rfl (e_var V_L_names_5 rfl) (e_var V_L_names_7 rfl) (by trivial) (fun _ => rfl) rfl (fun _ => rfl) ?_
    intro names_here_27 hnames_here_27
    have hnames_here_27_l : names_here_27.length = (s_6).length + 1 := by rw [hnames_here_27, List.length_append]; rfl
    exact ss_end (hold_end (by exact ⟨.inr rfl, .inr rfl, .inr rfl, .inr rfl, .inr rfl, .inr rfl, .inl rfl, .inl rfl, .inl rfl, .inl rfl, trivial⟩))
  intro s_6 he_L0
  have hgrow_33 : (s_6).length ≤ (([] : List Str)).length + 1 * ((upto a_many)).length := by
    rw [he_L0]
    refine foldl_meas (m := fun s_6 : (List Str) => (s_6).length) ?_ (s0 := ([] : List Str))
    intro _ _
    first | exact app_le | exact putIf_len | (simp only [lt]; exact dPut_len) | (simp only [lt]; split <;> first | exact dPut_len | omega) | ((try simp only [lt]); (repeat' split) <;> first | exact dPut_len | exact Nat.le_succ _) | (simp only [lt, slen_app, signAt_len, List.length_append, List.length_cons, List.length_nil]; omega) | ((try simp only [lt]); (repeat' split) <;> ((try simp only [lt, slen_app, signAt_len, List.length_append, List.length_cons, List.length_nil]); omega))
  rw [upto_len] at hgrow_33
  refine ss_freeze (G := G) (i := 5) rfl ?_
  exact ss_ret (e_var V_L_names_5 rfl) (fun _ _ _ h => h)
theorem k_L_names {G : Cfg} (A : All G) : Callee G 1 "_law_names" (sp_L_names G) := by
  refine A.d_L_names.callee (N := N_L_names) (ps := ["_law_cell", "_law_many"]) (scope_of rfl rfl rfl (by decide +kernel)) (fun ds O rk h => ?_) (fun _ _ _ _ _ _ us hl => match us, hl with | [_, _], _ => rfl) (fun ds O rk h => ?_)
  · obtain ⟨a_cell, a_many, hp, rfl, rfl⟩ := h; rfl
  · obtain ⟨a_cell, a_many, hp, rfl, rfl⟩ := h; exact ⟨_, _, _, _, b_L_names A O a_cell a_many hp, rfl⟩
def N_L_hour : List Str := ["_law_cell", "_law_far"]
def C_L_hour : Sc := ⟨0, N_L_hour, defScope (top 49), true, true⟩
instance : Calm C_L_hour := ⟨rfl⟩
theorem V_L_hour_0 : Var C_L_hour 0 "_law_cell" := var_of (by decide +kernel)
theorem V_L_hour_1 : Var C_L_hour 1 "_law_far" := var_of (by decide +kernel)
theorem b_L_hour {G : Cfg} (A : All G) (O : Own) (a_cell : Int) (a_far : Int) (hpre : 0 ≤ a_far ∧ a_far ≤ 2) : SS G C_L_hour (defBody (top 49)) (frame0 N_L_hour [dI a_cell, dI a_far]) O (fnV dI O) (.rt (m_L_hour a_cell a_far)) := by
  unfold m_L_hour
  exact ss_ret (e_nthL (f := dI) (xs := [(a_cell % (12 : Int)), (((a_cell % (12 : Int)) * (1000000000000000 : Int)) + (7 : Int)), ((1000000000000000000 : Int) - (a_cell % (9 : Int)))]) (en_lst (en_list (ds := [dI (a_cell % (12 : Int)), dI (((a_cell % (12 : Int)) * (1000000000000000 : Int)) + (7 : Int)), dI ((1000000000000000000 : Int) - (a_cell % (9 : Int)))]) (a_cons (e_mod (e_var V_L_hour_0 rfl) e_int (by trivial)) (a_cons (e_add (e_mulR (e_mod (e_var V_L_hour_0 rfl) e_int (by trivial)) (e_powC 1000000000000000 e_int e_int (by decide +kernel)) (by trivial)) e_int) (a_cons (e_sub (e_powC 1000000000000000000 e_int e_int (by decide +kernel)) (e_mod (e_var V_L_hour_0 rfl) e_int (by trivial))) a_nil (fun _ => rfl)) (fun _ => rfl)) (fun _ => rfl)) (Nat.le_of_ble_eq_true rfl))) (e_var V_L_hour_1 rfl) (inR_len (m := 3) rfl (by trivial)) (fun _ _ => rfl)) (fun _ _ _ h => h)
theorem k_L_hour {G : Cfg} (A : All G) : Callee G 1 "_law_hour" (sp_L_hour G) := by
  refine A.d_L_hour.callee (N := N_L_hour) (ps := ["_law_cell", "_law_far"]) (scope_of rfl rfl rfl (by decide +kernel)) (fun ds O rk h => ?_) (fun _ _ _ _ _ _ us hl => match us, hl with | [_, _], _ => rfl) (fun ds O rk h => ?_)
  · obtain ⟨a_cell, a_far, hp, rfl, rfl⟩ := h; rfl
  · obtain ⟨a_cell, a_far, hp, rfl, rfl⟩ := h; exact ⟨_, _, _, _, b_L_hour A O a_cell a_far hp, rfl⟩
def N_L_sights : List Str := ["_law_cell", "_law_persons", "_law_words", "_law_far", "_law_sights_here", "_law_k", "_law_some", "_law_tale", "_law_j"]
def C_L_sights : Sc := ⟨1, N_L_sights, defScope (top 58), true, true⟩
instance : Calm C_L_sights := ⟨rfl⟩
theorem nd_L_sights : C_L_sights.N.Nodup := by decide +kernel
theorem V_L_sights_0 : Var C_L_sights 0 "_law_cell" := var_of (by decide +kernel)
theorem V_L_sights_1 : Var C_L_sights 1 "_law_persons" := var_of (by decide +kernel)
theorem V_L_sights_3 : Var C_L_sights 3 "_law_far" := var_of (by decide +kernel)
theorem V_L_sights_4 : Var C_L_sights 4 "_law_sights_here" := var_of (by decide +kernel)
theorem V_L_sights_5 : Var C_L_sights 5 "_law_k" := var_of (by decide +kernel)
theorem V_L_sights_6 : Var C_L_sights 6 "_law_some" := var_of (by decide +kernel)
theorem V_L_sights_7 : Var C_L_sights 7 "_law_tale" := var_of (by decide +kernel)
theorem S_L_sights_4 : Loca C_L_sights 4 "_law_sights_here" := loc_of (by decide +kernel)
theorem S_L_sights_5 : Loca C_L_sights 5 "_law_k" := loc_of (by decide +kernel)
theorem S_L_sights_6 : Loca C_L_sights 6 "_law_some" := loc_of (by decide +kernel)
theorem S_L_sights_7 : Loca C_L_sights 7 "_law_tale" := loc_of (by decide +kernel)
theorem G_L_sights__law_hour : Glo C_L_sights "_law_hour" := glo_of (by decide +kernel)
theorem G_L_sights__law_mix : Glo C_L_sights "_law_mix" := glo_of (by decide +kernel)
theorem G_L_sights_len : Glo C_L_sights "len" := glo_of (by decide +kernel)
theorem G_L_sights_range : Glo C_L_sights "range" := glo_of (by decide +kernel)
theorem G_L_sights_tuple : Glo C_L_sights "tuple" := glo_of (by decide +kernel)
theorem b_L_sights {G : Cfg} (A : All G) (O : Own) (a_cell : Int) (a_persons : (List Str)) (a_words : (List Str)) (a_far : Int) (hpre : (0 ≤ a_far ∧ a_far ≤ 2) ∧ 1 ≤ a_persons.length ∧ 3 ≤ a_words.length) : SS G C_L_sights (defBody (top 58)) (frame0 N_L_sights [dI a_cell, (dLo G.K dS) a_persons, (dLo G.K dS) a_words, dI a_far]) O (fnV (dLo G.K (dT3 G.K dS dI (dVt G.K dS))) O) (.rt (m_L_sights a_cell a_persons a_words a_far)) := by
  unfold m_L_sights
  have hfar := hpre.1
  have hpl := hpre.2.1
  have hwl := hpre.2.2
  refine ss_new (od := oLst (([] : List (Str × Int × (List Str))).map (dT3 G.K dS dI (dVt G.K dS)))) S_L_sights_4 (fun _ => rfl) (en_list (ds := []) a_nil (Nat.le_of_ble_eq_true rfl)) ?_
  intro p_sights_here_1
  refine ss_fr70 (Γ1 := [some (dI a_cell), some ((dLo G.K dS) a_persons), some ((dLo G.K dS) a_words), some (dI a_far), some (dP p_sights_here_1), none, none, none, none]) (by exact ⟨.inr rfl, .inr rfl, .inr rfl, .inr rfl, .inr rfl, .inl rfl, .inl rfl, .inl rfl, .inl rfl, trivial⟩) ?_
  refine ss_fold (Γ := [some (dI a_cell), some ((dLo G.K dS) a_persons), some ((dLo G.K dS) a_words), some (dI a_far), some (dP p_sights_here_1), none, none, none, none]) (df := dI) (s0 := ([] : List (Str × Int × (List Str)))) .rt (fun s_3 : (List (Str × Int × (List Str))) => [some (dI a_cell), some ((dLo G.K dS) a_persons), some ((dLo G.K dS) a_words), some (dI a_far), some (dP p_sights_here_1), none, none, none, none]) (fun (s_3 : (List (Str × Int × (List Str)))) (x_4 : Int) => ([some (dI a_cell), some ((dLo G.K dS) a_persons), some ((dLo G.K dS) a_words), some (dI a_far), some (dP p_sights_here_1), none, none, none, none]).set 5 (some (dI x_4))) (fun s_3 : (List (Str × Int × (List Str))) => ((p_sights_here_1, oLst (s_3.map (dT3 G.K dS dI (dVt G.K dS)))) :: O)) (ei_range G_L_sights_range A.b_range (e_add e_int (e_mod (e_var V_L_sights_0 rfl) e_int (by trivial))) (by first | omega | trivial) (fun _ => rfl)) (by exact ⟨.inr rfl, .inr rfl, .inr rfl, .inr rfl, .inr rfl, .inl rfl, .inl rfl, .inl rfl, .inl rfl, trivial⟩) rfl (fun _ => trivial) (fun s_3 x_4 => (tj_name S_L_sights_5)) ?_ ?_ (fun _ _ => rfl)
  ·
    intro s_3 x_4 pre_5 post_6 hs_7 hf_8
    have hm_9 : x_4 ∈ (upto ((1 : Int) + (a_cell % (3 : Int)))) := by rw [hs_7]; simp
    have := mem_upto hm_9
    have hpl_10 : pre_5.length < ((upto ((1 : Int) + (a_cell % (3 : Int))))).length := by rw [hs_7, List.length_append, List.length_cons]; omega
    rw [upto_len] at hpl_10
    have hgrow_11 : (s_3).length ≤ (([] : List (Str × Int × (List Str)))).length + 1 * pre_5.length := by
      rw [hf_8]
      refine foldl_meas (m := fun s_3 : (List (Str × Int × (List Str))) => (s_3).length) ?_ (s0 := ([] : List (Str × Int × (List Str))))
      intro _ _
      first | exact app_le | exact putIf_len | (simp only [lt]; exact dPut_len) | (simp only [lt]; split <;> first | exact dPut_len | omega) | ((try simp only [lt]); (repeat' split) <;> first | exact dPut_len | exact Nat.le_succ _) | (simp only [lt, slen_app, signAt_len, List.length_append, List.length_cons, List.length_nil]; omega) | ((try simp only [lt]); (repeat' split) <;> ((try simp only [lt, slen_app, signAt_len, List.length_append, List.length_cons, List.length_nil]); omega))
    refine ss_asg (f := dI) .nx S_L_sights_6 (fun _ => rfl) (e_call (k_L_mix A) (by decide) G_L_sights__law_mix ⟨a_cell, ((20 : Int) + x_4), (by trivial), rfl, rfl⟩ (a_cons (e_var V_L_sights_0 rfl) (a_cons (e_add e_int (e_var V_L_sights_5 rfl)) a_nil (fun _ => rfl)) (fun _ => rfl)) (fun _ => rfl)) ?_
    intro some_12 hsome_12
    refine ss_asg (f := (dVt G.K dS)) .nx S_L_sights_7 (fun _ => rfl) (e_callT k_tupL G_L_sights_tuple A.b_tuple bt_tuple (a_cons (en_lst (en_lc (own := [("_law_j", 8)]) (df := dI) (dg := dS) (xs := (upto ((1 : Int) + (some_12 % (2 : Int))))) (g := fun e_13 => (nth a_words ((m_L_mix some_12 e_13) % (3 : Int)))) nd_L_sights (ei_range G_L_sights_range A.b_range (e_add e_int (e_mod (e_var V_L_sights_6 rfl) e_int (by trivial))) (by first | omega | trivial) (fun _ => rfl)) (fun _ _ => trivial) (blkOk_by (by decide +kernel)) (fun e_13 => (tj_name (loc_of (i := 8) (by decide +kernel)))) (by decide) (fun e_13 hm_14 q_ _ => by have := mem_upto hm_14; exact (e_nthL (f := dS) (xs := a_words) (e_var (var_of (i := 2) (by decide +kernel)) rfl) (e_mod (e_call (k_L_mix A) (by decide) (glo_of (by decide +kernel)) ⟨some_12, e_13, (by trivial), rfl, rfl⟩ (a_cons (e_var (var_of (i := 6) (by decide +kernel)) rfl) (a_cons (e_var (var_of (i := 8) (by decide +kernel)) rfl) a_nil (fun _ => rfl)) (fun _ => rfl)) (fun _ => rfl)) e_int (by trivial)) (by trivial) (fun _ _ => rfl))) (by trivial) (fun _ _ => rfl))) a_nil (fun _ => rfl)) (fun _ => rfl)) ?_
    intro tale_16 htale_16
    refine ss_app (f := (dT3 G.K dS dI (dVt G.K dS))) (xs := s_3) (y := ((nth a_persons ((some_12 / (3 : Int)) % (a_persons.length : Int))), (m_L_hour (m_L_mix some_12 (9 : Int)) a_far), tale_16)) (n := 0) .nx rfl (e_var V_L_sights_4 rfl) (e_tup (a_cons (e_nthL (f := dS) (xs := a_persons) (e_var V_L_sights_1 rfl) (e_mod (e_divS (e_var V_L_sights_6 rfl) e_int (by trivial)) (e_callB (k_lenLo (xs := a_persons) (f := dS)) G_L_sights_len A.b_len bt_len (a_cons (e_var V_L_sights_1 rfl) a_nil (fun _ => rfl)) (fun _ => rfl)) (by trivial)) (by trivial) (fun _ _ => rfl)) (a_cons (e_call (k_L_hour A) (by decide) G_L_sights__law_hour ⟨(m_L_mix some_12 (9 : Int)), a_far, (by trivial), rfl, rfl⟩ (a_cons (e_call (k_L_mix A) (by decide) G_L_sights__law_mix ⟨some_12, (9 : Int), (by trivial), rfl, rfl⟩ (a_cons (e_var V_L_sights_6 rfl) (a_cons e_int a_nil (fun _ => rfl)) (fun _ => rfl)) (fun _ => rfl)) (a_cons (e_var V_L_sights_3 rfl) a_nil (fun _ => rfl)) (fun _ => rfl)) (fun _ => rfl)) (a_cons (e_var V_L_sights_7 rfl) a_nil (fun _ => rfl)) (fun _ => rfl)) (fun _ => rfl)) (Nat.le_of_ble_eq_true rfl)) (by trivial) (fun _ => rfl) rfl (fun _ => rfl) ?_
    intro sights_here_17 hsights_here_17
    have hsights_here_17_l : sights_here_17.length = (s_3).length + 1 := by rw [hsights_here_17, List.length_append]; rfl
    exact ss_end (hold_end (by exact ⟨.inr rfl, .inr rfl, .inr rfl, .inr rfl, .inr rfl, .inl rfl, .inl rfl, .inl rfl, .inl rfl, trivial⟩))
  intro s_3 he_L0
  have hgrow_20 : (s_3).length ≤ (([] : List (Str × Int × (List Str)))).length + 1 * ((upto ((1 : Int) + (a_cell % (3 : Int))))).length := by
    rw [he_L0]
    refine foldl_meas (m := fun s_3 : (List (Str × Int × (List Str))) => (s_3).length) ?_ (s0 := ([] : List (Str × Int × (List Str))))
    intro _ _
    first | exact app_le | exact putIf_len | (simp only [lt]; exact dPut_len) | (simp only [lt]; split <;> first | exact dPut_len | omega) | ((try simp only [lt]); (repeat' split) <;> first | exact dPut_len | exact Nat.le_succ _) | (simp only [lt, slen_app, signAt_len, List.length_append, List.length_cons, List.length_nil]; omega) | ((try simp only [lt]); (repeat' split) <;> ((try simp only [lt, slen_app, signAt_len, List.length_append, List.length_cons, List.length_nil]); omega))
  rw [upto_len] at hgrow_20
  refine ss_freeze (G := G) (i := 4) rfl ?_
  exact ss_ret (e_var V_L_sights_4 rfl) (fun _ _ _ h => h)
theorem k_L_sights {G : Cfg} (A : All G) : Callee G 2 "_law_sights" (sp_L_sights G) := by
  refine A.d_L_sights.callee (N := N_L_sights) (ps := ["_law_cell", "_law_persons", "_law_words", "_law_far"]) (scope_of rfl rfl rfl (by decide +kernel)) (fun ds O rk h => ?_) (fun _ _ _ _ _ _ us hl => match us, hl with | [_, _, _, _], _ => rfl) (fun ds O rk h => ?_)
  · obtain ⟨a_cell, a_persons, a_words, a_far, hp, rfl, rfl⟩ := h; rfl
  · obtain ⟨a_cell, a_persons, a_words, a_far, hp, rfl, rfl⟩ := h; exact ⟨_, _, _, _, b_L_sights A O a_cell a_persons a_words a_far hp, rfl⟩
def N_L_talks : List Str := ["_law_cells", "_law_persons", "_law_far", "_law_talks_here", "_law_cell", "_law_one", "_law_two"]
def C_L_talks : Sc := ⟨1, N_L_talks, defScope (top 50), true, true⟩
instance : Calm C_L_talks := ⟨rfl⟩
theorem V_L_talks_0 : Var C_L_talks 0 "_law_cells" := var_of (by decide +kernel)
theorem V_L_talks_1 : Var C_L_talks 1 "_law_persons" := var_of (by decide +kernel)
theorem V_L_talks_2 : Var C_L_talks 2 "_law_far" := var_of (by decide +kernel)
theorem V_L_talks_3 : Var C_L_talks 3 "_law_talks_here" := var_of (by decide +kernel)
theorem V_L_talks_4 : Var C_L_talks 4 "_law_cell" := var_of (by decide +kernel)
theorem V_L_talks_5 : Var C_L_talks 5 "_law_one" := var_of (by decide +kernel)
theorem V_L_talks_6 : Var C_L_talks 6 "_law_two" := var_of (by decide +kernel)
theorem S_L_talks_3 : Loca C_L_talks 3 "_law_talks_here" := loc_of (by decide +kernel)
theorem S_L_talks_4 : Loca C_L_talks 4 "_law_cell" := loc_of (by decide +kernel)
theorem S_L_talks_5 : Loca C_L_talks 5 "_law_one" := loc_of (by decide +kernel)
theorem S_L_talks_6 : Loca C_L_talks 6 "_law_two" := loc_of (by decide +kernel)
theorem G_L_talks__law_hour : Glo C_L_talks "_law_hour" := glo_of (by decide +kernel)
theorem G_L_talks__law_mix : Glo C_L_talks "_law_mix" := glo_of (by decide +kernel)
theorem G_L_talks_len : Glo C_L_talks "len" := glo_of (by decide +kernel)
theorem b_L_talks {G : Cfg} (A : All G) (O : Own) (a_cells : (List Int)) (a_persons : (List Str)) (a_far : Int) (hpre : (0 ≤ a_far ∧ a_far ≤ 2) ∧ 1 < a_persons.length ∧ a_cells.length ≤ 63) : SS G C_L_talks (defBody (top 50)) (frame0 N_L_talks [(dLo G.K dI) a_cells, (dLo G.K dS) a_persons, dI a_far]) O (fnV (dLo G.K (dT4 G.K dI dS dS dS)) O) (.rt (m_L_talks a_cells a_persons a_far)) := by
  unfold m_L_talks
  have hfar := hpre.1
  have hpl := hpre.2.1
  have hcl := hpre.2.2
  have hn0 : ([] : List (Int × Str × Str × Str)).length = 0 := rfl
  refine ss_new (od := oLst (([] : List (Int × Str × Str × Str)).map (dT4 G.K dI dS dS dS))) S_L_talks_3 (fun _ => rfl) (en_list (ds := []) a_nil (Nat.le_of_ble_eq_true rfl)) ?_
  intro p_talks_here_1
  refine ss_fr70 (Γ1 := [some ((dLo G.K dI) a_cells), some ((dLo G.K dS) a_persons), some (dI a_far), some (dP p_talks_here_1), none, none, none]) (by exact ⟨.inr rfl, .inr rfl, .inr rfl, .inr rfl, .inl rfl, .inl rfl, .inl rfl, trivial⟩) ?_
  refine ss_fold (Γ := [some ((dLo G.K dI) a_cells), some ((dLo G.K dS) a_persons), some (dI a_far), some (dP p_talks_here_1), none, none, none]) (df := dI) (s0 := ([] : List (Int × Str × Str × Str))) .rt (fun s_3 : (List (Int × Str × Str × Str)) => [some ((dLo G.K dI) a_cells), some ((dLo G.K dS) a_persons), some (dI a_far), some (dP p_talks_here_1), none, none, none]) (fun (s_3 : (List (Int × Str × Str × Str))) (x_4 : Int) => ([some ((dLo G.K dI) a_cells), some ((dLo G.K dS) a_persons), some (dI a_far), some (dP p_talks_here_1), none, none, none]).set 4 (some (dI x_4))) (fun s_3 : (List (Int × Str × Str × Str)) => ((p_talks_here_1, oLst (s_3.map (dT4 G.K dI dS dS dS))) :: O)) (ei_list (e_var V_L_talks_0 rfl)) (by exact ⟨.inr rfl, .inr rfl, .inr rfl, .inr rfl, .inl rfl, .inl rfl, .inl rfl, trivial⟩) rfl (fun _ => trivial) (fun s_3 x_4 => (tj_name S_L_talks_4)) ?_ ?_ (fun _ _ => rfl)
  ·
    intro s_3 x_4 pre_5 post_6 hs_7 hf_8
    have hm_9 : x_4 ∈ a_cells := by rw [hs_7]; simp
    have hpl_10 : pre_5.length < (a_cells).length := by rw [hs_7, List.length_append, List.length_cons]; omega
    have hgrow_11 : (s_3).length ≤ (([] : List (Int × Str × Str × Str))).length + 1 * pre_5.length := by
      rw [hf_8]
      refine foldl_meas (m := fun s_3 : (List (Int × Str × Str × Str)) => (s_3).length) ?_ (s0 := ([] : List (Int × Str × Str × Str)))
      intro _ _
      first | exact app_le | exact putIf_len | (simp only [lt]; exact dPut_len) | (simp only [lt]; split <;> first | exact dPut_len | omega) | ((try simp only [lt]); (repeat' split) <;> first | exact dPut_len | exact Nat.le_succ _) | (simp only [lt, slen_app, signAt_len, List.length_append, List.length_cons, List.length_nil]; omega) | ((try simp only [lt]); (repeat' split) <;> ((try simp only [lt, slen_app, signAt_len, List.length_append, List.length_cons, List.length_nil]); omega))
    refine ss_asg (f := dS) .nx S_L_talks_5 (fun _ => rfl) (e_nthL (f := dS) (xs := a_persons) (e_var V_L_talks_1 rfl) (e_mod (e_call (k_L_mix A) (by decide) G_L_talks__law_mix ⟨x_4, (1 : Int), (by trivial), rfl, rfl⟩ (a_cons (e_var V_L_talks_4 rfl) (a_cons e_int a_nil (fun _ => rfl)) (fun _ => rfl)) (fun _ => rfl)) (e_callB (k_lenLo (xs := a_persons) (f := dS)) G_L_talks_len A.b_len bt_len (a_cons (e_var V_L_talks_1 rfl) a_nil (fun _ => rfl)) (fun _ => rfl)) (by trivial)) (by trivial) (fun _ _ => rfl)) ?_
    intro one_12 hone_12
    have hone : one_12 ∈ a_persons := by rw [hone_12]; exact nth_mem (inR_mod (by omega))
    refine ss_asg (f := dS) .nx S_L_talks_6 (fun _ => rfl) (e_nthL (f := dS) (xs := a_persons) (e_var V_L_talks_1 rfl) (e_mod (e_add (e_add (e_lidx (e_var V_L_talks_1 rfl) (e_var V_L_talks_5 rfl) (by trivial) (fun _ => rfl) rfl (fun _ => rfl)) e_int) (e_mod (e_call (k_L_mix A) (by decide) G_L_talks__law_mix ⟨x_4, (2 : Int), (by trivial), rfl, rfl⟩ (a_cons (e_var V_L_talks_4 rfl) (a_cons e_int a_nil (fun _ => rfl)) (fun _ => rfl)) (fun _ => rfl)) (e_sub (e_callB (k_lenLo (xs := a_persons) (f := dS)) G_L_talks_len A.b_len bt_len (a_cons (e_var V_L_talks_1 rfl) a_nil (fun _ => rfl)) (fun _ => rfl)) e_int) (by trivial))) (e_callB (k_lenLo (xs := a_persons) (f := dS)) G_L_talks_len A.b_len bt_len (a_cons (e_var V_L_talks_1 rfl) a_nil (fun _ => rfl)) (fun _ => rfl)) (by trivial)) (by trivial) (fun _ _ => rfl)) ?_
    intro two_13 htwo_13
    refine ss_app (f := (dT4 G.K dI dS dS dS)) (xs := s_3) (y := ((m_L_hour (m_L_mix x_4 (3 : Int)) a_far), one_12, two_13, (nth ([("both" : Str), ("one" : Str)]) ((m_L_mix x_4 (4 : Int)) % (2 : Int))))) (n := 0) .nx rfl (e_var V_L_talks_3 rfl) (e_tup (a_cons (e_call (k_L_hour A) (by decide) G_L_talks__law_hour ⟨(m_L_mix x_4 (3 : Int)), a_far, (by trivial), rfl, rfl⟩ (a_cons (e_call (k_L_mix A) (by decide) G_L_talks__law_mix ⟨x_4, (3 : Int), (by trivial), rfl, rfl⟩ (a_cons (e_var V_L_talks_4 rfl) (a_cons e_int a_nil (fun _ => rfl)) (fun _ => rfl)) (fun _ => rfl)) (a_cons (e_var V_L_talks_2 rfl) a_nil (fun _ => rfl)) (fun _ => rfl)) (fun _ => rfl)) (a_cons (e_var V_L_talks_5 rfl) (a_cons (e_var V_L_talks_6 rfl) (a_cons (e_nthL (f := dS) (xs := [("both" : Str), ("one" : Str)]) (en_lst (en_list (ds := [dS ("both" : Str), dS ("one" : Str)]) (a_cons e_str (a_cons e_str a_nil (fun _ => rfl)) (fun _ => rfl)) (Nat.le_of_ble_eq_true rfl))) (e_mod (e_call (k_L_mix A) (by decide) G_L_talks__law_mix ⟨x_4, (4 : Int), (by trivial), rfl, rfl⟩ (a_cons (e_var V_L_talks_4 rfl) (a_cons e_int a_nil (fun _ => rfl)) (fun _ => rfl)) (fun _ => rfl)) e_int (by trivial)) (inR_len (m := 2) rfl (by trivial)) (fun _ _ => rfl)) a_nil (fun _ => rfl)) (fun _ => rfl)) (fun _ => rfl)) (fun _ => rfl)) (Nat.le_of_ble_eq_true rfl)) (by trivial) (fun _ => rfl) rfl (fun _ => rfl) ?_
    intro talks_here_14 htalks_here_14
    have htalks_here_14_l : talks_here_14.length = (s_3).length + 1 := by rw [htalks_here_14, List.length_append]; rfl
    exact ss_end (hold_end (by exact ⟨.inr rfl, .inr rfl, .inr rfl, .inr rfl, .inl rfl, .inl rfl, .inl rfl, trivial⟩))
  intro s_3 he_L0
  have hgrow_17 : (s_3).length ≤ (([] : List (Int × Str × Str × Str))).length + 1 * (a_cells).length := by
    rw [he_L0]
    refine foldl_meas (m := fun s_3 : (List (Int × Str × Str × Str)) => (s_3).length) ?_ (s0 := ([] : List (Int × Str × Str × Str)))
    intro _ _
    first | exact app_le | exact putIf_len | (simp only [lt]; exact dPut_len) | (simp only [lt]; split <;> first | exact dPut_len | omega) | ((try simp only [lt]); (repeat' split) <;> first | exact dPut_len | exact Nat.le_succ _) | (simp only [lt, slen_app, signAt_len, List.length_append, List.length_cons, List.length_nil]; omega) | ((try simp only [lt]); (repeat' split) <;> ((try simp only [lt, slen_app, signAt_len, List.length_append, List.length_cons, List.length_nil]); omega))
  refine ss_freeze (G := G) (i := 3) rfl ?_
  exact ss_ret (e_var V_L_talks_3 rfl) (fun _ _ _ h => h)
theorem k_L_talks {G : Cfg} (A : All G) : Callee G 2 "_law_talks" (sp_L_talks G) := by
  refine A.d_L_talks.callee (N := N_L_talks) (ps := ["_law_cells", "_law_persons", "_law_far"]) (scope_of rfl rfl rfl (by decide +kernel)) (fun ds O rk h => ?_) (fun _ _ _ _ _ _ us hl => match us, hl with | [_, _, _], _ => rfl) (fun ds O rk h => ?_)
  · obtain ⟨a_cells, a_persons, a_far, hp, rfl, rfl⟩ := h; rfl
  · obtain ⟨a_cells, a_persons, a_far, hp, rfl, rfl⟩ := h; exact ⟨_, _, _, _, b_L_talks A O a_cells a_persons a_far hp, rfl⟩
def N_L_habits : List Str := ["_law_cell", "_law_persons", "_law_words", "_law_habits_here", "_law_k", "_law_person", "_law_some", "_law_firsts", "_law_j", "_law_one"]
def C_L_habits : Sc := ⟨1, N_L_habits, defScope (top 57), true, true⟩
instance : Calm C_L_habits := ⟨rfl⟩
theorem nd_L_habits : C_L_habits.N.Nodup := by decide +kernel
theorem V_L_habits_0 : Var C_L_habits 0 "_law_cell" := var_of (by decide +kernel)
theorem V_L_habits_1 : Var C_L_habits 1 "_law_persons" := var_of (by decide +kernel)
theorem V_L_habits_2 : Var C_L_habits 2 "_law_words" := var_of (by decide +kernel)
theorem V_L_habits_3 : Var C_L_habits 3 "_law_habits_here" := var_of (by decide +kernel)
theorem V_L_habits_4 : Var C_L_habits 4 "_law_k" := var_of (by decide +kernel)
theorem V_L_habits_5 : Var C_L_habits 5 "_law_person" := var_of (by decide +kernel)
theorem V_L_habits_6 : Var C_L_habits 6 "_law_some" := var_of (by decide +kernel)
theorem V_L_habits_7 : Var C_L_habits 7 "_law_firsts" := var_of (by decide +kernel)
theorem S_L_habits_3 : Loca C_L_habits 3 "_law_habits_here" := loc_of (by decide +kernel)
theorem S_L_habits_4 : Loca C_L_habits 4 "_law_k" := loc_of (by decide +kernel)
theorem S_L_habits_5 : Loca C_L_habits 5 "_law_person" := loc_of (by decide +kernel)
theorem S_L_habits_6 : Loca C_L_habits 6 "_law_some" := loc_of (by decide +kernel)
theorem S_L_habits_7 : Loca C_L_habits 7 "_law_firsts" := loc_of (by decide +kernel)
theorem G_L_habits__law_mix : Glo C_L_habits "_law_mix" := glo_of (by decide +kernel)
theorem G_L_habits_enumerate : Glo C_L_habits "enumerate" := glo_of (by decide +kernel)
theorem G_L_habits_len : Glo C_L_habits "len" := glo_of (by decide +kernel)
theorem b_L_habits {G : Cfg} (A : All G) (O : Own) (a_cell : Int) (a_persons : (List Str)) (a_words : (List Str)) (hpre : a_words.length = 3 ∧ a_persons.length ≤ 10) : SS G C_L_habits (defBody (top 57)) (frame0 N_L_habits [dI a_cell, (dLo G.K dS) a_persons, (dLo G.K dS) a_words]) O (fnN (fun r => oDc kS (dLo G.K (dT2 G.K dS dS)) r) O) (.rt (m_L_habits a_cell a_persons a_words)) := by
  unfold m_L_habits
  have hn0 : ([] : List (Str × List (Str × Str))).length = 0 := rfl
  have hw3 := hpre.1
  have hpl := hpre.2
  refine ss_new (od := oDc kS (dLo G.K (dT2 G.K dS dS)) ([] : (List (Str × (List (Str × Str)))))) S_L_habits_3 (fun _ => rfl) en_dic0 ?_
  intro p_habits_here_1
  refine ss_fr70 (Γ1 := [some (dI a_cell), some ((dLo G.K dS) a_persons), some ((dLo G.K dS) a_words), some (dP p_habits_here_1), none, none, none, none, none, none]) (by exact ⟨.inr rfl, .inr rfl, .inr rfl, .inr rfl, .inl rfl, .inl rfl, .inl rfl, .inl rfl, .inl rfl, .inl rfl, trivial⟩) ?_
  refine ss_fold (Γ := [some (dI a_cell), some ((dLo G.K dS) a_persons), some ((dLo G.K dS) a_words), some (dP p_habits_here_1), none, none, none, none, none, none]) (df := (dT2 G.K dI dS)) (s0 := ([] : (List (Str × (List (Str × Str)))))) .rt (fun s_3 : (List (Str × (List (Str × Str)))) => [some (dI a_cell), some ((dLo G.K dS) a_persons), some ((dLo G.K dS) a_words), some (dP p_habits_here_1), none, none, none, none, none, none]) (fun (s_3 : (List (Str × (List (Str × Str))))) (x_4 : (Int × Str)) => (([some (dI a_cell), some ((dLo G.K dS) a_persons), some ((dLo G.K dS) a_words), some (dP p_habits_here_1), none, none, none, none, none, none]).set 4 (some (dI x_4.1))).set 5 (some (dS x_4.2))) (fun s_3 : (List (Str × (List (Str × Str)))) => ((p_habits_here_1, oDc kS (dLo G.K (dT2 G.K dS dS)) s_3) :: O)) (ei_enum (f := dS) (xs := a_persons) G_L_habits_enumerate A.b_enumerate (e_var V_L_habits_1 rfl) (fun _ => rfl)) (by exact ⟨.inr rfl, .inr rfl, .inr rfl, .inr rfl, .inl rfl, .inl rfl, .inl rfl, .inl rfl, .inl rfl, .inl rfl, trivial⟩) rfl (fun _ => trivial) (fun s_3 x_4 => (tj_tup (tjs_cons (tj_name S_L_habits_4) (tjs_cons (tj_name S_L_habits_5) tjs_nil (fun _ => rfl)) (fun _ => rfl)) (fun _ => rfl) (fun _ => rfl))) ?_ ?_ (fun _ _ => rfl)
  ·
    intro s_3 x_4 pre_5 post_6 hs_7 hf_8
    have hm_9 : x_4 ∈ (enumL a_persons) := by rw [hs_7]; simp
    have := mem_enum hm_9
    have hpl_10 : pre_5.length < ((enumL a_persons)).length := by rw [hs_7, List.length_append, List.length_cons]; omega
    rw [enumL_len] at hpl_10
    have hgrow_11 : (s_3).length ≤ (([] : (List (Str × (List (Str × Str)))))).length + 1 * pre_5.length := by
      rw [hf_8]
      refine foldl_meas (m := fun s_3 : (List (Str × (List (Str × Str)))) => (s_3).length) ?_ (s0 := ([] : (List (Str × (List (Str × Str))))))
      intro _ _
      first | exact app_le | exact putIf_len | (simp only [lt]; exact dPut_len) | (simp only [lt]; split <;> first | exact dPut_len | omega) | ((try simp only [lt]); (repeat' split) <;> first | exact dPut_len | exact Nat.le_succ _) | (simp only [lt, slen_app, signAt_len, List.length_append, List.length_cons, List.length_nil]; omega) | ((try simp only [lt]); (repeat' split) <;> ((try simp only [lt, slen_app, signAt_len, List.length_append, List.length_cons, List.length_nil]); omega))
    refine ss_asg (f := dI) .nx S_L_habits_6 (fun _ => rfl) (e_call (k_L_mix A) (by decide) G_L_habits__law_mix ⟨a_cell, ((50 : Int) + x_4.1), (by trivial), rfl, rfl⟩ (a_cons (e_var V_L_habits_0 rfl) (a_cons (e_add e_int (e_var V_L_habits_4 rfl)) a_nil (fun _ => rfl)) (fun _ => rfl)) (fun _ => rfl)) ?_
    intro some_12 hsome_12
    refine ss_if .nx (t_cmp c_gt (e_mod (e_var V_L_habits_6 rfl) e_int (by trivial)) e_int rfl) (fun hc_13 => ?_) (fun hc_13 => ?_)
    ·
      have := @cut_len _ a_words none (some ((some_12 / (4 : Int)) % ((a_words.length : Int) + (1 : Int))))
      refine ss_asg (f := (dLo G.K dS)) .nx S_L_habits_7 (fun _ => rfl) (en_lst (en_cut (f := dS) (xs := a_words) (e_var V_L_habits_2 rfl) eo_none (eo_some (e_mod (e_divS (e_var V_L_habits_6 rfl) e_int (by trivial)) (e_add (e_callB (k_lenLo (xs := a_words) (f := dS)) G_L_habits_len A.b_len bt_len (a_cons (e_var V_L_habits_2 rfl) a_nil (fun _ => rfl)) (fun _ => rfl)) e_int) (by trivial))))) ?_
      intro firsts_14 hfirsts_14
      have hfl : firsts_14.length ≤ 20 := by rw [hfirsts_14]; exact Nat.le_trans cut_len (by omega)
      refine ss_putD (f := (dLo G.K (dT2 G.K dS dS))) (kvs := s_3) (y := ((enumL firsts_14).map fun e_15 => (e_15.2, (nth a_words ((m_L_mix some_12 e_15.1) % (a_words.length : Int)))))) (n := 0) .nx (fun _ _ => kS_inj) rfl (e_var V_L_habits_3 rfl) isK_S (e_var V_L_habits_5 rfl) (en_lst (en_lc (own := [("_law_j", 8), ("_law_one", 9)]) (df := (dT2 G.K dI dS)) (dg := (dT2 G.K dS dS)) (xs := (enumL firsts_14)) (g := fun e_15 => (e_15.2, (nth a_words ((m_L_mix some_12 e_15.1) % (a_words.length : Int))))) nd_L_habits (ei_enum (f := dS) (xs := firsts_14) G_L_habits_enumerate A.b_enumerate (e_var V_L_habits_7 rfl) (fun _ => rfl)) (fun _ _ => trivial) (blkOk_by (by decide +kernel)) (fun e_15 => (tj_tup (tjs_cons (tj_name (loc_of (i := 8) (by decide +kernel))) (tjs_cons (tj_name (loc_of (i := 9) (by decide +kernel))) tjs_nil (fun _ => rfl)) (fun _ => rfl)) (fun _ => rfl) (fun _ => rfl))) (by decide) (fun e_15 hm_16 q_ _ => by have := mem_enum hm_16; exact (e_tup (a_cons (e_var (var_of (i := 9) (by decide +kernel)) rfl) (a_cons (e_nthL (f := dS) (xs := a_words) (e_var (var_of (i := 2) (by decide +kernel)) rfl) (e_mod (e_call (k_L_mix A) (by decide) (glo_of (by decide +kernel)) ⟨some_12, e_15.1, (by trivial), rfl, rfl⟩ (a_cons (e_var (var_of (i := 6) (by decide +kernel)) rfl) (a_cons (e_var (var_of (i := 8) (by decide +kernel)) rfl) a_nil (fun _ => rfl)) (fun _ => rfl)) (fun _ => rfl)) (e_callB (k_lenLo (xs := a_words) (f := dS)) (glo_of (by decide +kernel)) A.b_len bt_len (a_cons (e_var (var_of (i := 2) (by decide +kernel)) rfl) a_nil (fun _ => rfl)) (fun _ => rfl)) (by trivial)) (by trivial) (fun _ _ => rfl)) a_nil (fun _ => rfl)) (fun _ => rfl)) (Nat.le_of_ble_eq_true rfl))) (by trivial) (fun _ _ => rfl))) (by trivial) (fun _ => rfl) ?_
      intro habits_here_18 hhabits_here_18
      exact ss_end (hold_end (by exact ⟨.inr rfl, .inr rfl, .inr rfl, .inr rfl, .inl rfl, .inl rfl, .inl rfl, .inl rfl, .inl rfl, .inl rfl, trivial⟩))
    ·
      exact ss_end (hold_end (by exact ⟨.inr rfl, .inr rfl, .inr rfl, .inr rfl, .inl rfl, .inl rfl, .inl rfl, .inl rfl, .inl rfl, .inl rfl, trivial⟩))
  intro s_3 he_L0
  have hgrow_21 : (s_3).length ≤ (([] : (List (Str × (List (Str × Str)))))).length + 1 * ((enumL a_persons)).length := by
    rw [he_L0]
    refine foldl_meas (m := fun s_3 : (List (Str × (List (Str × Str)))) => (s_3).length) ?_ (s0 := ([] : (List (Str × (List (Str × Str))))))
    intro _ _
    first | exact app_le | exact putIf_len | (simp only [lt]; exact dPut_len) | (simp only [lt]; split <;> first | exact dPut_len | omega) | ((try simp only [lt]); (repeat' split) <;> first | exact dPut_len | exact Nat.le_succ _) | (simp only [lt, slen_app, signAt_len, List.length_append, List.length_cons, List.length_nil]; omega) | ((try simp only [lt]); (repeat' split) <;> ((try simp only [lt, slen_app, signAt_len, List.length_append, List.length_cons, List.length_nil]); omega))
  rw [enumL_len] at hgrow_21
  exact ss_retO V_L_habits_3 rfl (fun _ _ _ h => h)
theorem k_L_habits {G : Cfg} (A : All G) : Callee G 2 "_law_habits" (sp_L_habits G) := by
  refine A.d_L_habits.callee (N := N_L_habits) (ps := ["_law_cell", "_law_persons", "_law_words"]) (scope_of rfl rfl rfl (by decide +kernel)) (fun ds O rk h => ?_) (fun _ _ _ _ _ _ us hl => match us, hl with | [_, _, _], _ => rfl) (fun ds O rk h => ?_)
  · obtain ⟨a_cell, a_persons, a_words, hp, rfl, rfl⟩ := h; rfl
  · obtain ⟨a_cell, a_persons, a_words, hp, rfl, rfl⟩ := h; exact ⟨_, _, _, _, b_L_habits A O a_cell a_persons a_words hp, rfl⟩
def N_P_is_name : List Str := ["thing", "sign"]
def C_P_is_name : Sc := ⟨0, N_P_is_name, defScope (top 29), true, true⟩
instance : Calm C_P_is_name := ⟨rfl⟩
theorem V_P_is_name_0 : Var C_P_is_name 0 "thing" := var_of (by decide +kernel)
theorem V_P_is_name_1 : Var C_P_is_name 1 "sign" := var_of (by decide +kernel)
theorem S_P_is_name_1 : Loca C_P_is_name 1 "sign" := loc_of (by decide +kernel)
theorem G_P_is_name_KEPT_WORDS : Glo C_P_is_name "KEPT_WORDS" := glo_of (by decide +kernel)
theorem G_P_is_name_LETTERS : Glo C_P_is_name "LETTERS" := glo_of (by decide +kernel)
theorem G_P_is_name_LONGEST : Glo C_P_is_name "LONGEST" := glo_of (by decide +kernel)
theorem G_P_is_name_isinstance : Glo C_P_is_name "isinstance" := glo_of (by decide +kernel)
theorem G_P_is_name_len : Glo C_P_is_name "len" := glo_of (by decide +kernel)
theorem G_P_is_name_str : Glo C_P_is_name "str" := glo_of (by decide +kernel)
theorem b_P_is_name {G : Cfg} (A : All G) (O : Own) (a_thing : Va) : SS G C_P_is_name (defBody (top 29)) (frame0 N_P_is_name [(dA G.K) a_thing]) O (fnV dB O) (.rt (m_P_is_name a_thing)) := by
  unfold m_P_is_name
  refine ss_when .rt (t_w (w_or (t_not (t_val (e_callB (k_isA kit_str) G_P_is_name_isinstance A.b_isinstance bt_isinstance (a_cons (e_var V_P_is_name_0 rfl) (a_cons (e_tyname G_P_is_name_str A.b_str bt_str) a_nil (fun _ => rfl)) (fun _ => rfl)) (fun _ => rfl)) (fun _ _ => rfl))) (fun hb_1 => (w_or (t_not (t_chain c_le (fun _ => c_le) e_int (e_callB k_lenS G_P_is_name_len A.b_len bt_len (a_cons (e_eq (e_var V_P_is_name_0 rfl) (isy_str (notF hb_1))) a_nil (fun _ => rfl)) (fun _ => rfl)) (fun _ => (e_globI G_P_is_name_LONGEST A.c_LONGEST)) (fun X _ _ _ _ _ h1 h2 h3 h4 h5 => pt_chain h1 h2 h3 h4 h5 (by with_unfolding_all rfl)))) (fun hb_2 => (w_or1 (t_cmp c_inTS (e_eq (e_var V_P_is_name_0 rfl) (isy_str (notF hb_1))) (e_globTS G_P_is_name_KEPT_WORDS A.c_KEPT_WORDS) rfl))))))) (fun _ => nofun) (fun hc_4 => ?_) (fun hc_4 => ?_)
  ·
    exact ss_ret e_bool (fun _ _ _ h => h)
  refine ss_fr70 (Γ1 := [some ((dA G.K) a_thing), none]) (by exact ⟨.inr rfl, .inl rfl, trivial⟩) ?_
  refine ss_loop (Γ := [some ((dA G.K) a_thing), none]) (df := dS) (s0 := ()) (fun s_5 : Unit => [some ((dA G.K) a_thing), none]) (fun (s_5 : Unit) (x_6 : Str) => ([some ((dA G.K) a_thing), none]).set 1 (some (dS x_6))) (fun s_5 : Unit => O) (ei_str (e_eq (e_var V_P_is_name_0 rfl) (isy_str (notF (orL hc_4))))) (by exact ⟨.inr rfl, .inl rfl, trivial⟩) rfl (fun _ => trivial) (fun s_5 x_6 => (tj_name S_P_is_name_1)) ?_ ?_ (fun _ _ => rfl)
  ·
    intro s_5 x_6 pre_7 post_8 hs_9 hf_10
    have hm_11 : x_6 ∈ (signs a_thing.asS) := by rw [hs_9]; simp
    have hpl_12 : pre_7.length < ((signs a_thing.asS)).length := by rw [hs_9, List.length_append, List.length_cons]; omega
    rw [signs_len] at hpl_12
    refine ss_if Ret.out (t_cmp (c_ninZ hm_11) (e_var V_P_is_name_1 rfl) (e_globS G_P_is_name_LETTERS A.c_LETTERS) rfl) (fun hc_13 => ?_) (fun hc_13 => ?_)
    ·
      exact ss_ret e_bool (fun _ _ _ h => h)
    ·
      exact ss_end (hold_end (by exact ⟨.inr rfl, .inl rfl, trivial⟩))
  intro s_5 he_L0
  exact ss_ret e_bool (fun _ _ _ h => h)
theorem k_P_is_name {G : Cfg} (A : All G) : Callee G 1 "is_name" (sp_P_is_name G) := by
  refine A.d_P_is_name.callee (N := N_P_is_name) (ps := ["thing"]) (scope_of rfl rfl rfl (by decide +kernel)) (fun ds O rk h => ?_) (fun _ _ _ _ _ _ us hl => match us, hl with | [_], _ => rfl) (fun ds O rk h => ?_)
  · obtain ⟨a_thing, hp, rfl, rfl⟩ := h; rfl
  · obtain ⟨a_thing, hp, rfl, rfl⟩ := h; exact ⟨_, _, _, _, b_P_is_name A O a_thing, rfl⟩
def N_P_are_persons : List Str := ["thing", "name"]
def C_P_are_persons : Sc := ⟨1, N_P_are_persons, defScope (top 37), true, true⟩
instance : Calm C_P_are_persons := ⟨rfl⟩
theorem V_P_are_persons_0 : Var C_P_are_persons 0 "thing" := var_of (by decide +kernel)
theorem V_P_are_persons_1 : Var C_P_are_persons 1 "name" := var_of (by decide +kernel)
theorem S_P_are_persons_1 : Loca C_P_are_persons 1 "name" := loc_of (by decide +kernel)
theorem G_P_are_persons_MOST_PERSONS : Glo C_P_are_persons "MOST_PERSONS" := glo_of (by decide +kernel)
theorem G_P_are_persons_is_name : Glo C_P_are_persons "is_name" := glo_of (by decide +kernel)
theorem G_P_are_persons_isinstance : Glo C_P_are_persons "isinstance" := glo_of (by decide +kernel)
theorem G_P_are_persons_len : Glo C_P_are_persons "len" := glo_of (by decide +kernel)
theorem G_P_are_persons_list : Glo C_P_are_persons "list" := glo_of (by decide +kernel)
theorem G_P_are_persons_set : Glo C_P_are_persons "set" := glo_of (by decide +kernel)
theorem b_P_are_persons {G : Cfg} (A : All G) (O : Own) (a_thing : (List Str)) : SS G C_P_are_persons (defBody (top 37)) (frame0 N_P_are_persons [(dLo G.K dS) a_thing]) O (fnV dB O) (.rt (m_P_are_persons a_thing)) := by
  unfold m_P_are_persons
  refine ss_when .rt (t_w (w_or (t_not (t_val (e_callB (k_isi (b := true) ty_lst (by decide +kernel)) G_P_are_persons_isinstance A.b_isinstance bt_isinstance (a_cons (e_var V_P_are_persons_0 rfl) (a_cons (e_tyname G_P_are_persons_list A.b_list bt_list) a_nil (fun _ => rfl)) (fun _ => rfl)) (fun _ => rfl)) (fun _ _ => rfl))) (fun hb_1 => (w_or1 (t_not (t_chain c_le (fun _ => c_le) e_int (e_callB (k_lenLo (xs := a_thing) (f := dS)) G_P_are_persons_len A.b_len bt_len (a_cons (e_var V_P_are_persons_0 rfl) a_nil (fun _ => rfl)) (fun _ => rfl)) (fun _ => (e_globI G_P_are_persons_MOST_PERSONS A.c_MOST_PERSONS)) (fun X _ _ _ _ _ h1 h2 h3 h4 h5 => pt_chain h1 h2 h3 h4 h5 (by with_unfolding_all rfl)))))))) (fun _ => nofun) (fun hc_3 => ?_) (fun hc_3 => ?_)
  ·
    exact ss_ret e_bool (fun _ _ _ h => h)
  refine ss_fr70 (Γ1 := [some ((dLo G.K dS) a_thing), none]) (by exact ⟨.inr rfl, .inl rfl, trivial⟩) ?_
  refine ss_loop (Γ := [some ((dLo G.K dS) a_thing), none]) (df := dS) (s0 := ()) (fun s_4 : Unit => [some ((dLo G.K dS) a_thing), none]) (fun (s_4 : Unit) (x_5 : Str) => ([some ((dLo G.K dS) a_thing), none]).set 1 (some (dS x_5))) (fun s_4 : Unit => O) (ei_list (e_var V_P_are_persons_0 rfl)) (by exact ⟨.inr rfl, .inl rfl, trivial⟩) rfl (fun _ => trivial) (fun s_4 x_5 => (tj_name S_P_are_persons_1)) ?_ ?_ (fun _ _ => rfl)
  ·
    intro s_4 x_5 pre_6 post_7 hs_8 hf_9
    have hm_10 : x_5 ∈ a_thing := by rw [hs_8]; simp
    have hpl_11 : pre_6.length < (a_thing).length := by rw [hs_8, List.length_append, List.length_cons]; omega
    refine ss_if Ret.out (t_not (t_val (e_call (k_P_is_name A) (by decide) G_P_are_persons_is_name ⟨(Va.str x_5), True.intro, rfl, rfl⟩ (a_cons (e_eq (e_var V_P_are_persons_1 rfl) ((fun x => (dA_str x).symm) x_5)) a_nil (fun _ => rfl)) (fun _ => rfl)) (fun _ _ => rfl))) (fun hc_12 => ?_) (fun hc_12 => ?_)
    ·
      exact ss_ret e_bool (fun _ _ _ h => h)
    ·
      exact ss_end (hold_end (by exact ⟨.inr rfl, .inl rfl, trivial⟩))
  intro s_4 he_L0
  exact ss_ret (e_cmp c_eqI (e_lenSet G_P_are_persons_len A.b_len G_P_are_persons_set A.b_set (e_var V_P_are_persons_0 rfl) (by trivial) (fun _ => rfl)) (e_callB (k_lenLo (xs := a_thing) (f := dS)) G_P_are_persons_len A.b_len bt_len (a_cons (e_var V_P_are_persons_0 rfl) a_nil (fun _ => rfl)) (fun _ => rfl)) rfl) (fun _ _ _ h => h)
theorem k_P_are_persons {G : Cfg} (A : All G) : Callee G 2 "are_persons" (sp_P_are_persons G) := by
  refine A.d_P_are_persons.callee (N := N_P_are_persons) (ps := ["thing"]) (scope_of rfl rfl rfl (by decide +kernel)) (fun ds O rk h => ?_) (fun _ _ _ _ _ _ us hl => match us, hl with | [_], _ => rfl) (fun ds O rk h => ?_)
  · obtain ⟨a_thing, hp, rfl, rfl⟩ := h; rfl
  · obtain ⟨a_thing, hp, rfl, rfl⟩ := h; exact ⟨_, _, _, _, b_P_are_persons A O a_thing, rfl⟩
def N_P_is_tuple_of : List Str := ["thing", "many"]
def C_P_is_tuple_of : Sc := ⟨0, N_P_is_tuple_of, defScope (top 36), true, true⟩
instance : Calm C_P_is_tuple_of := ⟨rfl⟩
theorem V_P_is_tuple_of_0 : Var C_P_is_tuple_of 0 "thing" := var_of (by decide +kernel)
theorem V_P_is_tuple_of_1 : Var C_P_is_tuple_of 1 "many" := var_of (by decide +kernel)
theorem G_P_is_tuple_of_isinstance : Glo C_P_is_tuple_of "isinstance" := glo_of (by decide +kernel)
theorem G_P_is_tuple_of_len : Glo C_P_is_tuple_of "len" := glo_of (by decide +kernel)
theorem G_P_is_tuple_of_tuple : Glo C_P_is_tuple_of "tuple" := glo_of (by decide +kernel)
theorem b_P_is_tuple_of {G : Cfg} (A : All G) (O : Own) (a_thing : Va) (a_many : Int) : SS G C_P_is_tuple_of (defBody (top 36)) (frame0 N_P_is_tuple_of [(dA G.K) a_thing, dI a_many]) O (fnV dB O) (.rt (m_P_is_tuple_of a_thing a_many)) := by
  unfold m_P_is_tuple_of
  exact ss_ret (e_and (e_callB (k_isA kit_tuple) G_P_is_tuple_of_isinstance A.b_isinstance bt_isinstance (a_cons (e_var V_P_is_tuple_of_0 rfl) (a_cons (e_tyname G_P_is_tuple_of_tuple A.b_tuple bt_tuple) a_nil (fun _ => rfl)) (fun _ => rfl)) (fun _ => rfl)) (fun hb_1 => (e_bool1 (e_cmp c_eqI (e_callB (k_lenVt (xs := a_thing.asT) (f := (dA G.K))) G_P_is_tuple_of_len A.b_len bt_len (a_cons (e_eq (e_var V_P_is_tuple_of_0 rfl) (isy_tup hb_1)) a_nil (fun _ => rfl)) (fun _ => rfl)) (e_var V_P_is_tuple_of_1 rfl) rfl)))) (fun _ _ _ h => h)
theorem k_P_is_tuple_of {G : Cfg} (A : All G) : Callee G 1 "is_tuple_of" (sp_P_is_tuple_of G) := by
  refine A.d_P_is_tuple_of.callee (N := N_P_is_tuple_of) (ps := ["thing", "many"]) (scope_of rfl rfl rfl (by decide +kernel)) (fun ds O rk h => ?_) (fun _ _ _ _ _ _ us hl => match us, hl with | [_, _], _ => rfl) (fun ds O rk h => ?_)
  · obtain ⟨a_thing, a_many, hp, rfl, rfl⟩ := h; rfl
  · obtain ⟨a_thing, a_many, hp, rfl, rfl⟩ := h; exact ⟨_, _, _, _, b_P_is_tuple_of A O a_thing a_many, rfl⟩
def N_P_is_whole : List Str := ["thing"]
def C_P_is_whole : Sc := ⟨0, N_P_is_whole, defScope (top 27), true, true⟩
instance : Calm C_P_is_whole := ⟨rfl⟩
theorem V_P_is_whole_0 : Var C_P_is_whole 0 "thing" := var_of (by decide +kernel)
theorem G_P_is_whole_bool : Glo C_P_is_whole "bool" := glo_of (by decide +kernel)
theorem G_P_is_whole_int : Glo C_P_is_whole "int" := glo_of (by decide +kernel)
theorem G_P_is_whole_isinstance : Glo C_P_is_whole "isinstance" := glo_of (by decide +kernel)
theorem b_P_is_whole {G : Cfg} (A : All G) (O : Own) (a_thing : Va) : SS G C_P_is_whole (defBody (top 27)) (frame0 N_P_is_whole [(dA G.K) a_thing]) O (fnV dB O) (.rt (m_P_is_whole a_thing)) := by
  unfold m_P_is_whole
  exact ss_ret (e_and (e_callB (k_isA kit_int) G_P_is_whole_isinstance A.b_isinstance bt_isinstance (a_cons (e_var V_P_is_whole_0 rfl) (a_cons (e_tyname G_P_is_whole_int A.b_int bt_int) a_nil (fun _ => rfl)) (fun _ => rfl)) (fun _ => rfl)) (fun hb_1 => (e_bool1 (e_not (e_callB (k_isA kit_bool) G_P_is_whole_isinstance A.b_isinstance bt_isinstance (a_cons (e_var V_P_is_whole_0 rfl) (a_cons (e_tyname G_P_is_whole_bool A.b_bool bt_bool) a_nil (fun _ => rfl)) (fun _ => rfl)) (fun _ => rfl)))))) (fun _ _ _ h => h)
theorem k_P_is_whole {G : Cfg} (A : All G) : Callee G 1 "is_whole" (sp_P_is_whole G) := by
  refine A.d_P_is_whole.callee (N := N_P_is_whole) (ps := ["thing"]) (scope_of rfl rfl rfl (by decide +kernel)) (fun ds O rk h => ?_) (fun _ _ _ _ _ _ us hl => match us, hl with | [_], _ => rfl) (fun ds O rk h => ?_)
  · obtain ⟨a_thing, hp, rfl, rfl⟩ := h; rfl
  · obtain ⟨a_thing, hp, rfl, rfl⟩ := h; exact ⟨_, _, _, _, b_P_is_whole A O a_thing, rfl⟩
def N_P_is_hour : List Str := ["thing"]
def C_P_is_hour : Sc := ⟨1, N_P_is_hour, defScope (top 28), true, true⟩
instance : Calm C_P_is_hour := ⟨rfl⟩
theorem V_P_is_hour_0 : Var C_P_is_hour 0 "thing" := var_of (by decide +kernel)
theorem G_P_is_hour_LAST_HOUR : Glo C_P_is_hour "LAST_HOUR" := glo_of (by decide +kernel)
theorem G_P_is_hour_is_whole : Glo C_P_is_hour "is_whole" := glo_of (by decide +kernel)
theorem b_P_is_hour {G : Cfg} (A : All G) (O : Own) (a_thing : Va) : SS G C_P_is_hour (defBody (top 28)) (frame0 N_P_is_hour [(dA G.K) a_thing]) O (fnV dB O) (.rt (m_P_is_hour a_thing)) := by
  unfold m_P_is_hour
  exact ss_ret (e_and (e_call (k_P_is_whole A) (by decide) G_P_is_hour_is_whole ⟨a_thing, True.intro, rfl, rfl⟩ (a_cons (e_var V_P_is_hour_0 rfl) a_nil (fun _ => rfl)) (fun _ => rfl)) (fun hb_1 => (e_bool1 (e_chain c_le (fun _ => c_le) e_int (e_eq (e_var V_P_is_hour_0 rfl) (isy_int (whole_isA hb_1).1 (whole_isA hb_1).2)) (fun _ => (e_globI G_P_is_hour_LAST_HOUR A.c_LAST_HOUR)) (fun X _ _ _ _ _ h1 h2 h3 h4 h5 => pe_chain h1 h2 h3 h4 h5 (by with_unfolding_all rfl)))))) (fun _ _ _ h => h)
theorem k_P_is_hour {G : Cfg} (A : All G) : Callee G 2 "is_hour" (sp_P_is_hour G) := by
  refine A.d_P_is_hour.callee (N := N_P_is_hour) (ps := ["thing"]) (scope_of rfl rfl rfl (by decide +kernel)) (fun ds O rk h => ?_) (fun _ _ _ _ _ _ us hl => match us, hl with | [_], _ => rfl) (fun ds O rk h => ?_)
  · obtain ⟨a_thing, hp, rfl, rfl⟩ := h; rfl
  · obtain ⟨a_thing, hp, rfl, rfl⟩ := h; exact ⟨_, _, _, _, b_P_is_hour A O a_thing, rfl⟩
def N_P_is_tale : List Str := ["thing", "word"]
def C_P_is_tale : Sc := ⟨1, N_P_is_tale, defScope (top 38), true, true⟩
instance : Calm C_P_is_tale := ⟨rfl⟩
theorem V_P_is_tale_0 : Var C_P_is_tale 0 "thing" := var_of (by decide +kernel)
theorem V_P_is_tale_1 : Var C_P_is_tale 1 "word" := var_of (by decide +kernel)
theorem S_P_is_tale_1 : Loca C_P_is_tale 1 "word" := loc_of (by decide +kernel)
theorem G_P_is_tale_MOST_WORDS : Glo C_P_is_tale "MOST_WORDS" := glo_of (by decide +kernel)
theorem G_P_is_tale_is_name : Glo C_P_is_tale "is_name" := glo_of (by decide +kernel)
theorem G_P_is_tale_isinstance : Glo C_P_is_tale "isinstance" := glo_of (by decide +kernel)
theorem G_P_is_tale_len : Glo C_P_is_tale "len" := glo_of (by decide +kernel)
theorem G_P_is_tale_tuple : Glo C_P_is_tale "tuple" := glo_of (by decide +kernel)
theorem b_P_is_tale {G : Cfg} (A : All G) (O : Own) (a_thing : (List Str)) : SS G C_P_is_tale (defBody (top 38)) (frame0 N_P_is_tale [(dVt G.K dS) a_thing]) O (fnV dB O) (.rt (m_P_is_tale a_thing)) := by
  unfold m_P_is_tale
  refine ss_when .rt (t_w (w_or (t_not (t_val (e_callB (k_isi (b := true) ty_tup (by decide +kernel)) G_P_is_tale_isinstance A.b_isinstance bt_isinstance (a_cons (e_var V_P_is_tale_0 rfl) (a_cons (e_tyname G_P_is_tale_tuple A.b_tuple bt_tuple) a_nil (fun _ => rfl)) (fun _ => rfl)) (fun _ => rfl)) (fun _ _ => rfl))) (fun hb_1 => (w_or1 (t_not (t_chain c_le (fun _ => c_le) e_int (e_callB (k_lenVt (xs := a_thing) (f := dS)) G_P_is_tale_len A.b_len bt_len (a_cons (e_var V_P_is_tale_0 rfl) a_nil (fun _ => rfl)) (fun _ => rfl)) (fun _ => (e_globI G_P_is_tale_MOST_WORDS A.c_MOST_WORDS)) (fun X _ _ _ _ _ h1 h2 h3 h4 h5 => pt_chain h1 h2 h3 h4 h5 (by with_unfolding_all rfl)))))))) (fun _ => nofun) (fun hc_3 => ?_) (fun hc_3 => ?_)
  ·
    exact ss_ret e_bool (fun _ _ _ h => h)
  refine ss_fr70 (Γ1 := [some ((dVt G.K dS) a_thing), none]) (by exact ⟨.inr rfl, .inl rfl, trivial⟩) ?_
  refine ss_loop (Γ := [some ((dVt G.K dS) a_thing), none]) (df := dS) (s0 := ()) (fun s_4 : Unit => [some ((dVt G.K dS) a_thing), none]) (fun (s_4 : Unit) (x_5 : Str) => ([some ((dVt G.K dS) a_thing), none]).set 1 (some (dS x_5))) (fun s_4 : Unit => O) (ei_tup (e_var V_P_is_tale_0 rfl)) (by exact ⟨.inr rfl, .inl rfl, trivial⟩) rfl (fun _ => trivial) (fun s_4 x_5 => (tj_name S_P_is_tale_1)) ?_ ?_ (fun _ _ => rfl)
  ·
    intro s_4 x_5 pre_6 post_7 hs_8 hf_9
    have hm_10 : x_5 ∈ a_thing := by rw [hs_8]; simp
    have hpl_11 : pre_6.length < (a_thing).length := by rw [hs_8, List.length_append, List.length_cons]; omega
    refine ss_if Ret.out (t_not (t_val (e_call (k_P_is_name A) (by decide) G_P_is_tale_is_name ⟨(Va.str x_5), True.intro, rfl, rfl⟩ (a_cons (e_eq (e_var V_P_is_tale_1 rfl) ((fun x => (dA_str x).symm) x_5)) a_nil (fun _ => rfl)) (fun _ => rfl)) (fun _ _ => rfl))) (fun hc_12 => ?_) (fun hc_12 => ?_)
    ·
      exact ss_ret e_bool (fun _ _ _ h => h)
    ·
      exact ss_end (hold_end (by exact ⟨.inr rfl, .inl rfl, trivial⟩))
  intro s_4 he_L0
  exact ss_ret e_bool (fun _ _ _ h => h)
theorem k_P_is_tale {G : Cfg} (A : All G) : Callee G 2 "is_tale" (sp_P_is_tale G) := by
  refine A.d_P_is_tale.callee (N := N_P_is_tale) (ps := ["thing"]) (scope_of rfl rfl rfl (by decide +kernel)) (fun ds O rk h => ?_) (fun _ _ _ _ _ _ us hl => match us, hl with | [_], _ => rfl) (fun ds O rk h => ?_)
  · obtain ⟨a_thing, hp, rfl, rfl⟩ := h; rfl
  · obtain ⟨a_thing, hp, rfl, rfl⟩ := h; exact ⟨_, _, _, _, b_P_is_tale A O a_thing, rfl⟩
def N_P_is_sight : List Str := ["thing", "persons"]
def C_P_is_sight : Sc := ⟨2, N_P_is_sight, defScope (top 39), true, true⟩
instance : Calm C_P_is_sight := ⟨rfl⟩
theorem V_P_is_sight_0 : Var C_P_is_sight 0 "thing" := var_of (by decide +kernel)
theorem V_P_is_sight_1 : Var C_P_is_sight 1 "persons" := var_of (by decide +kernel)
theorem G_P_is_sight_is_hour : Glo C_P_is_sight "is_hour" := glo_of (by decide +kernel)
theorem G_P_is_sight_is_tale : Glo C_P_is_sight "is_tale" := glo_of (by decide +kernel)
theorem G_P_is_sight_is_tuple_of : Glo C_P_is_sight "is_tuple_of" := glo_of (by decide +kernel)
theorem b_P_is_sight {G : Cfg} (A : All G) (O : Own) (a_thing : (Str × Int × (List Str))) (a_persons : (List Str)) : SS G C_P_is_sight (defBody (top 39)) (frame0 N_P_is_sight [(dT3 G.K dS dI (dVt G.K dS)) a_thing, (dLo G.K dS) a_persons]) O (fnV dB O) (.rt (m_P_is_sight a_thing a_persons)) := by
  unfold m_P_is_sight
  refine ss_fr70 (Γ1 := [some ((dT3 G.K dS dI (dVt G.K dS)) a_thing), some ((dLo G.K dS) a_persons)]) (by exact ⟨.inr rfl, .inr rfl, trivial⟩) ?_
  refine ss_when .rt (t_not (t_val (e_call (k_P_is_tuple_of A) (by decide) G_P_is_sight_is_tuple_of ⟨((fun x : (Str × Int × (List Str)) => Va.tup [Va.str x.1, Va.int x.2.1, (fun xs : (List Str) => Va.tup (xs.map Va.str)) x.2.2]) a_thing), (3 : Int), True.intro, rfl, rfl⟩ (a_cons (e_eq (e_var V_P_is_sight_0 rfl) ((any_t3 (fun x => (dA_str x).symm) (fun x => (dA_int x).symm) (any_tup (fun x => (dA_str x).symm))) a_thing)) (a_cons e_int a_nil (fun _ => rfl)) (fun _ => rfl)) (fun _ => rfl)) (fun _ _ => rfl))) (fun _ => nofun) (fun hc_1 => ?_) (fun hc_1 => ?_)
  ·
    exact ss_ret e_bool (fun _ _ _ h => h)
  exact ss_ret (e_and (e_cmp c_inLS (e_ixT (i := (0 : Int)) rfl (e_var V_P_is_sight_0 rfl) e_int (fun _ _ => rfl)) (e_var V_P_is_sight_1 rfl) rfl) (fun hb_2 => (e_and (e_call (k_P_is_hour A) (by decide) G_P_is_sight_is_hour ⟨(Va.int a_thing.2.1), True.intro, rfl, rfl⟩ (a_cons (e_eq (e_ixT (i := (1 : Int)) rfl (e_var V_P_is_sight_0 rfl) e_int (fun _ _ => rfl)) ((fun x => (dA_int x).symm) a_thing.2.1)) a_nil (fun _ => rfl)) (fun _ => rfl)) (fun hb_3 => (e_bool1 (e_call (k_P_is_tale A) (by decide) G_P_is_sight_is_tale ⟨a_thing.2.2, True.intro, rfl, rfl⟩ (a_cons (e_ixT (i := (2 : Int)) rfl (e_var V_P_is_sight_0 rfl) e_int (fun _ _ => rfl)) a_nil (fun _ => rfl)) (fun _ => rfl))))))) (fun _ _ _ h => h)
theorem k_P_is_sight {G : Cfg} (A : All G) : Callee G 3 "is_sight" (sp_P_is_sight G) := by
  refine A.d_P_is_sight.callee (N := N_P_is_sight) (ps := ["thing", "persons"]) (scope_of rfl rfl rfl (by decide +kernel)) (fun ds O rk h => ?_) (fun _ _ _ _ _ _ us hl => match us, hl with | [_, _], _ => rfl) (fun ds O rk h => ?_)
  · obtain ⟨a_thing, a_persons, hp, rfl, rfl⟩ := h; rfl
  · obtain ⟨a_thing, a_persons, hp, rfl, rfl⟩ := h; exact ⟨_, _, _, _, b_P_is_sight A O a_thing a_persons, rfl⟩
def N_P_are_all_at_is_sight : List Str := ["thing", "most", "persons", "fits", "one"]
def C_P_are_all_at_is_sight : Sc := ⟨3, N_P_are_all_at_is_sight, defScope (top 43), true, true⟩
instance : Calm C_P_are_all_at_is_sight := ⟨rfl⟩
theorem V_P_are_all_at_is_sight_0 : Var C_P_are_all_at_is_sight 0 "thing" := var_of (by decide +kernel)
theorem V_P_are_all_at_is_sight_1 : Var C_P_are_all_at_is_sight 1 "most" := var_of (by decide +kernel)
theorem V_P_are_all_at_is_sight_2 : Var C_P_are_all_at_is_sight 2 "persons" := var_of (by decide +kernel)
theorem V_P_are_all_at_is_sight_3 : Var C_P_are_all_at_is_sight 3 "fits" := var_of (by decide +kernel)
theorem V_P_are_all_at_is_sight_4 : Var C_P_are_all_at_is_sight 4 "one" := var_of (by decide +kernel)
theorem S_P_are_all_at_is_sight_4 : Loca C_P_are_all_at_is_sight 4 "one" := loc_of (by decide +kernel)
theorem G_P_are_all_at_is_sight_isinstance : Glo C_P_are_all_at_is_sight "isinstance" := glo_of (by decide +kernel)
theorem G_P_are_all_at_is_sight_len : Glo C_P_are_all_at_is_sight "len" := glo_of (by decide +kernel)
theorem G_P_are_all_at_is_sight_list : Glo C_P_are_all_at_is_sight "list" := glo_of (by decide +kernel)
theorem b_P_are_all_at_is_sight {G : Cfg} (A : All G) (O : Own) (a_thing : (List (Str × Int × (List Str)))) (a_most : Int) (a_persons : (List Str)) : SS G C_P_are_all_at_is_sight (defBody (top 43)) (frame0 N_P_are_all_at_is_sight [(dLo G.K (dT3 G.K dS dI (dVt G.K dS))) a_thing, dI a_most, (dLo G.K dS) a_persons, dFn G 3 (sp_P_is_sight G)]) O (fnV dB O) (.rt (m_P_are_all_at_is_sight a_thing a_most a_persons)) := by
  unfold m_P_are_all_at_is_sight
  refine ss_when .rt (t_w (w_or (t_not (t_val (e_callB (k_isi (b := true) ty_lst (by decide +kernel)) G_P_are_all_at_is_sight_isinstance A.b_isinstance bt_isinstance (a_cons (e_var V_P_are_all_at_is_sight_0 rfl) (a_cons (e_tyname G_P_are_all_at_is_sight_list A.b_list bt_list) a_nil (fun _ => rfl)) (fun _ => rfl)) (fun _ => rfl)) (fun _ _ => rfl))) (fun hb_1 => (w_or1 (t_cmp c_gt (e_callB (k_lenLo (xs := a_thing) (f := (dT3 G.K dS dI (dVt G.K dS)))) G_P_are_all_at_is_sight_len A.b_len bt_len (a_cons (e_var V_P_are_all_at_is_sight_0 rfl) a_nil (fun _ => rfl)) (fun _ => rfl)) (e_var V_P_are_all_at_is_sight_1 rfl) rfl))))) (fun _ => nofun) (fun hc_3 => ?_) (fun hc_3 => ?_)
  ·
    exact ss_ret e_bool (fun _ _ _ h => h)
  refine ss_fr70 (Γ1 := [some ((dLo G.K (dT3 G.K dS dI (dVt G.K dS))) a_thing), some (dI a_most), some ((dLo G.K dS) a_persons), some (dFn G 3 (sp_P_is_sight G)), none]) (by exact ⟨.inr rfl, .inr rfl, .inr rfl, .inr rfl, .inl rfl, trivial⟩) ?_
  refine ss_loop (Γ := [some ((dLo G.K (dT3 G.K dS dI (dVt G.K dS))) a_thing), some (dI a_most), some ((dLo G.K dS) a_persons), some (dFn G 3 (sp_P_is_sight G)), none]) (df := (dT3 G.K dS dI (dVt G.K dS))) (s0 := ()) (fun s_4 : Unit => [some ((dLo G.K (dT3 G.K dS dI (dVt G.K dS))) a_thing), some (dI a_most), some ((dLo G.K dS) a_persons), some (dFn G 3 (sp_P_is_sight G)), none]) (fun (s_4 : Unit) (x_5 : (Str × Int × (List Str))) => ([some ((dLo G.K (dT3 G.K dS dI (dVt G.K dS))) a_thing), some (dI a_most), some ((dLo G.K dS) a_persons), some (dFn G 3 (sp_P_is_sight G)), none]).set 4 (some ((dT3 G.K dS dI (dVt G.K dS)) x_5))) (fun s_4 : Unit => O) (ei_list (e_var V_P_are_all_at_is_sight_0 rfl)) (by exact ⟨.inr rfl, .inr rfl, .inr rfl, .inr rfl, .inl rfl, trivial⟩) rfl (fun _ => trivial) (fun s_4 x_5 => (tj_name S_P_are_all_at_is_sight_4)) ?_ ?_ (fun _ _ => rfl)
  ·
    intro s_4 x_5 pre_6 post_7 hs_8 hf_9
    have hm_10 : x_5 ∈ a_thing := by rw [hs_8]; simp
    have hpl_11 : pre_6.length < (a_thing).length := by rw [hs_8, List.length_append, List.length_cons]; omega
    refine ss_if Ret.out (t_not (t_val (e_callL V_P_are_all_at_is_sight_3 rfl (by decide) ⟨x_5, a_persons, True.intro, rfl, rfl⟩ (a_cons (e_var V_P_are_all_at_is_sight_4 rfl) (a_cons (e_var V_P_are_all_at_is_sight_2 rfl) a_nil (fun _ => rfl)) (fun _ => rfl)) (fun _ => rfl)) (fun _ _ => rfl))) (fun hc_12 => ?_) (fun hc_12 => ?_)
    ·
      exact ss_ret e_bool (fun _ _ _ h => h)
    ·
      exact ss_end (hold_end (by exact ⟨.inr rfl, .inr rfl, .inr rfl, .inr rfl, .inl rfl, trivial⟩))
  intro s_4 he_L0
  exact ss_ret e_bool (fun _ _ _ h => h)
theorem k_P_are_all_at_is_sight {G : Cfg} (A : All G) : Callee G 4 "are_all" (sp_P_are_all_at_is_sight G) := by
  refine A.d_P_are_all.callee (N := N_P_are_all_at_is_sight) (ps := ["thing", "most", "persons", "fits"]) (scope_of rfl rfl rfl (by decide +kernel)) (fun ds O rk h => ?_) (fun _ _ _ _ _ _ us hl => match us, hl with | [_, _, _, _], _ => rfl) (fun ds O rk h => ?_)
  · obtain ⟨a_thing, a_most, a_persons, hp, rfl, rfl⟩ := h; rfl
  · obtain ⟨a_thing, a_most, a_persons, hp, rfl, rfl⟩ := h; exact ⟨_, _, _, _, b_P_are_all_at_is_sight A O a_thing a_most a_persons, rfl⟩
def N_P_are_two : List Str := ["one", "other", "persons"]
def C_P_are_two : Sc := ⟨0, N_P_are_two, defScope (top 40), true, true⟩
instance : Calm C_P_are_two := ⟨rfl⟩
theorem V_P_are_two_0 : Var C_P_are_two 0 "one" := var_of (by decide +kernel)
theorem V_P_are_two_1 : Var C_P_are_two 1 "other" := var_of (by decide +kernel)
theorem V_P_are_two_2 : Var C_P_are_two 2 "persons" := var_of (by decide +kernel)
theorem b_P_are_two {G : Cfg} (A : All G) (O : Own) (a_one : Str) (a_other : Str) (a_persons : (List Str)) : SS G C_P_are_two (defBody (top 40)) (frame0 N_P_are_two [dS a_one, dS a_other, (dLo G.K dS) a_persons]) O (fnV dB O) (.rt (m_P_are_two a_one a_other a_persons)) := by
  unfold m_P_are_two
  exact ss_ret (e_and (e_cmp c_inLS (e_var V_P_are_two_0 rfl) (e_var V_P_are_two_2 rfl) rfl) (fun hb_1 => (e_and (e_cmp c_inLS (e_var V_P_are_two_1 rfl) (e_var V_P_are_two_2 rfl) rfl) (fun hb_2 => (e_bool1 (e_cmp c_neS (e_var V_P_are_two_0 rfl) (e_var V_P_are_two_1 rfl) rfl)))))) (fun _ _ _ h => h)
theorem k_P_are_two {G : Cfg} (A : All G) : Callee G 1 "are_two" (sp_P_are_two G) := by
  refine A.d_P_are_two.callee (N := N_P_are_two) (ps := ["one", "other", "persons"]) (scope_of rfl rfl rfl (by decide +kernel)) (fun ds O rk h => ?_) (fun _ _ _ _ _ _ us hl => match us, hl with | [_, _, _], _ => rfl) (fun ds O rk h => ?_)
  · obtain ⟨a_one, a_other, a_persons, hp, rfl, rfl⟩ := h; rfl
  · obtain ⟨a_one, a_other, a_persons, hp, rfl, rfl⟩ := h; exact ⟨_, _, _, _, b_P_are_two A O a_one a_other a_persons, rfl⟩
def N_P_is_talk : List Str := ["thing", "persons"]
def C_P_is_talk : Sc := ⟨2, N_P_is_talk, defScope (top 41), true, true⟩
instance : Calm C_P_is_talk := ⟨rfl⟩
theorem V_P_is_talk_0 : Var C_P_is_talk 0 "thing" := var_of (by decide +kernel)
theorem V_P_is_talk_1 : Var C_P_is_talk 1 "persons" := var_of (by decide +kernel)
theorem G_P_is_talk_are_two : Glo C_P_is_talk "are_two" := glo_of (by decide +kernel)
theorem G_P_is_talk_is_hour : Glo C_P_is_talk "is_hour" := glo_of (by decide +kernel)
theorem G_P_is_talk_is_tuple_of : Glo C_P_is_talk "is_tuple_of" := glo_of (by decide +kernel)
theorem b_P_is_talk {G : Cfg} (A : All G) (O : Own) (a_thing : (Int × Str × Str × Str)) (a_persons : (List Str)) : SS G C_P_is_talk (defBody (top 41)) (frame0 N_P_is_talk [(dT4 G.K dI dS dS dS) a_thing, (dLo G.K dS) a_persons]) O (fnV dB O) (.rt (m_P_is_talk a_thing a_persons)) := by
  unfold m_P_is_talk
  refine ss_fr70 (Γ1 := [some ((dT4 G.K dI dS dS dS) a_thing), some ((dLo G.K dS) a_persons)]) (by exact ⟨.inr rfl, .inr rfl, trivial⟩) ?_
  refine ss_when .rt (t_not (t_val (e_call (k_P_is_tuple_of A) (by decide) G_P_is_talk_is_tuple_of ⟨((fun x : (Int × Str × Str × Str) => Va.tup [Va.int x.1, Va.str x.2.1, Va.str x.2.2.1, Va.str x.2.2.2]) a_thing), (4 : Int), True.intro, rfl, rfl⟩ (a_cons (e_eq (e_var V_P_is_talk_0 rfl) ((any_t4 (fun x => (dA_int x).symm) (fun x => (dA_str x).symm) (fun x => (dA_str x).symm) (fun x => (dA_str x).symm)) a_thing)) (a_cons e_int a_nil (fun _ => rfl)) (fun _ => rfl)) (fun _ => rfl)) (fun _ _ => rfl))) (fun _ => nofun) (fun hc_1 => ?_) (fun hc_1 => ?_)
  ·
    exact ss_ret e_bool (fun _ _ _ h => h)
  exact ss_ret (e_and (e_call (k_P_is_hour A) (by decide) G_P_is_talk_is_hour ⟨(Va.int a_thing.1), True.intro, rfl, rfl⟩ (a_cons (e_eq (e_ixT (i := (0 : Int)) rfl (e_var V_P_is_talk_0 rfl) e_int (fun _ _ => rfl)) ((fun x => (dA_int x).symm) a_thing.1)) a_nil (fun _ => rfl)) (fun _ => rfl)) (fun hb_2 => (e_and (e_call (k_P_are_two A) (by decide) G_P_is_talk_are_two ⟨a_thing.2.1, a_thing.2.2.1, a_persons, True.intro, rfl, rfl⟩ (a_cons (e_ixT (i := (1 : Int)) rfl (e_var V_P_is_talk_0 rfl) e_int (fun _ _ => rfl)) (a_cons (e_ixT (i := (2 : Int)) rfl (e_var V_P_is_talk_0 rfl) e_int (fun _ _ => rfl)) (a_cons (e_var V_P_is_talk_1 rfl) a_nil (fun _ => rfl)) (fun _ => rfl)) (fun _ => rfl)) (fun _ => rfl)) (fun hb_3 => (e_bool1 (e_cmp c_inTS (e_ixT (i := (3 : Int)) rfl (e_var V_P_is_talk_0 rfl) e_int (fun _ _ => rfl)) (e_tup (ds := [dS ("both" : Str), dS ("one" : Str)]) (a_cons e_str (a_cons e_str a_nil (fun _ => rfl)) (fun _ => rfl)) (Nat.le_of_ble_eq_true rfl)) rfl)))))) (fun _ _ _ h => h)
theorem k_P_is_talk {G : Cfg} (A : All G) : Callee G 3 "is_talk" (sp_P_is_talk G) := by
  refine A.d_P_is_talk.callee (N := N_P_is_talk) (ps := ["thing", "persons"]) (scope_of rfl rfl rfl (by decide +kernel)) (fun ds O rk h => ?_) (fun _ _ _ _ _ _ us hl => match us, hl with | [_, _], _ => rfl) (fun ds O rk h => ?_)
  · obtain ⟨a_thing, a_persons, hp, rfl, rfl⟩ := h; rfl
  · obtain ⟨a_thing, a_persons, hp, rfl, rfl⟩ := h; exact ⟨_, _, _, _, b_P_is_talk A O a_thing a_persons, rfl⟩
def N_P_are_all_at_is_talk : List Str := ["thing", "most", "persons", "fits", "one"]
def C_P_are_all_at_is_talk : Sc := ⟨3, N_P_are_all_at_is_talk, defScope (top 43), true, true⟩
instance : Calm C_P_are_all_at_is_talk := ⟨rfl⟩
theorem V_P_are_all_at_is_talk_0 : Var C_P_are_all_at_is_talk 0 "thing" := var_of (by decide +kernel)
theorem V_P_are_all_at_is_talk_1 : Var C_P_are_all_at_is_talk 1 "most" := var_of (by decide +kernel)
theorem V_P_are_all_at_is_talk_2 : Var C_P_are_all_at_is_talk 2 "persons" := var_of (by decide +kernel)
theorem V_P_are_all_at_is_talk_3 : Var C_P_are_all_at_is_talk 3 "fits" := var_of (by decide +kernel)
theorem V_P_are_all_at_is_talk_4 : Var C_P_are_all_at_is_talk 4 "one" := var_of (by decide +kernel)
theorem S_P_are_all_at_is_talk_4 : Loca C_P_are_all_at_is_talk 4 "one" := loc_of (by decide +kernel)
theorem G_P_are_all_at_is_talk_isinstance : Glo C_P_are_all_at_is_talk "isinstance" := glo_of (by decide +kernel)
theorem G_P_are_all_at_is_talk_len : Glo C_P_are_all_at_is_talk "len" := glo_of (by decide +kernel)
theorem G_P_are_all_at_is_talk_list : Glo C_P_are_all_at_is_talk "list" := glo_of (by decide +kernel)
theorem b_P_are_all_at_is_talk {G : Cfg} (A : All G) (O : Own) (a_thing : (List (Int × Str × Str × Str))) (a_most : Int) (a_persons : (List Str)) : SS G C_P_are_all_at_is_talk (defBody (top 43)) (frame0 N_P_are_all_at_is_talk [(dLo G.K (dT4 G.K dI dS dS dS)) a_thing, dI a_most, (dLo G.K dS) a_persons, dFn G 3 (sp_P_is_talk G)]) O (fnV dB O) (.rt (m_P_are_all_at_is_talk a_thing a_most a_persons)) := by
  unfold m_P_are_all_at_is_talk
  refine ss_when .rt (t_w (w_or (t_not (t_val (e_callB (k_isi (b := true) ty_lst (by decide +kernel)) G_P_are_all_at_is_talk_isinstance A.b_isinstance bt_isinstance (a_cons (e_var V_P_are_all_at_is_talk_0 rfl) (a_cons (e_tyname G_P_are_all_at_is_talk_list A.b_list bt_list) a_nil (fun _ => rfl)) (fun _ => rfl)) (fun _ => rfl)) (fun _ _ => rfl))) (fun hb_1 => (w_or1 (t_cmp c_gt (e_callB (k_lenLo (xs := a_thing) (f := (dT4 G.K dI dS dS dS))) G_P_are_all_at_is_talk_len A.b_len bt_len (a_cons (e_var V_P_are_all_at_is_talk_0 rfl) a_nil (fun _ => rfl)) (fun _ => rfl)) (e_var V_P_are_all_at_is_talk_1 rfl) rfl))))) (fun _ => nofun) (fun hc_3 => ?_) (fun hc_3 => ?_)
  ·
    exact ss_ret e_bool (fun _ _ _ h => h)
  refine ss_fr70 (Γ1 := [some ((dLo G.K (dT4 G.K dI dS dS dS)) a_thing), some (dI a_most), some ((dLo G.K dS) a_persons), some (dFn G 3 (sp_P_is_talk G)), none]) (by exact ⟨.inr rfl, .inr rfl, .inr rfl, .inr rfl, .inl rfl, trivial⟩) ?_
  refine ss_loop (Γ := [some ((dLo G.K (dT4 G.K dI dS dS dS)) a_thing), some (dI a_most), some ((dLo G.K dS) a_persons), some (dFn G 3 (sp_P_is_talk G)), none]) (df := (dT4 G.K dI dS dS dS)) (s0 := ()) (fun s_4 : Unit => [some ((dLo G.K (dT4 G.K dI dS dS dS)) a_thing), some (dI a_most), some ((dLo G.K dS) a_persons), some (dFn G 3 (sp_P_is_talk G)), none]) (fun (s_4 : Unit) (x_5 : (Int × Str × Str × Str)) => ([some ((dLo G.K (dT4 G.K dI dS dS dS)) a_thing), some (dI a_most), some ((dLo G.K dS) a_persons), some (dFn G 3 (sp_P_is_talk G)), none]).set 4 (some ((dT4 G.K dI dS dS dS) x_5))) (fun s_4 : Unit => O) (ei_list (e_var V_P_are_all_at_is_talk_0 rfl)) (by exact ⟨.inr rfl, .inr rfl, .inr rfl, .inr rfl, .inl rfl, trivial⟩) rfl (fun _ => trivial) (fun s_4 x_5 => (tj_name S_P_are_all_at_is_talk_4)) ?_ ?_ (fun _ _ => rfl)
  ·
    intro s_4 x_5 pre_6 post_7 hs_8 hf_9
    have hm_10 : x_5 ∈ a_thing := by rw [hs_8]; simp
    have hpl_11 : pre_6.length < (a_thing).length := by rw [hs_8, List.length_append, List.length_cons]; omega
    refine ss_if Ret.out (t_not (t_val (e_callL V_P_are_all_at_is_talk_3 rfl (by decide) ⟨x_5, a_persons, True.intro, rfl, rfl⟩ (a_cons (e_var V_P_are_all_at_is_talk_4 rfl) (a_cons (e_var V_P_are_all_at_is_talk_2 rfl) a_nil (fun _ => rfl)) (fun _ => rfl)) (fun _ => rfl)) (fun _ _ => rfl))) (fun hc_12 => ?_) (fun hc_12 => ?_)
    ·
      exact ss_ret e_bool (fun _ _ _ h => h)
    ·
      exact ss_end (hold_end (by exact ⟨.inr rfl, .inr rfl, .inr rfl, .inr rfl, .inl rfl, trivial⟩))
  intro s_4 he_L0
  exact ss_ret e_bool (fun _ _ _ h => h)
theorem k_P_are_all_at_is_talk {G : Cfg} (A : All G) : Callee G 4 "are_all" (sp_P_are_all_at_is_talk G) := by
  refine A.d_P_are_all.callee (N := N_P_are_all_at_is_talk) (ps := ["thing", "most", "persons", "fits"]) (scope_of rfl rfl rfl (by decide +kernel)) (fun ds O rk h => ?_) (fun _ _ _ _ _ _ us hl => match us, hl with | [_, _, _, _], _ => rfl) (fun ds O rk h => ?_)
  · obtain ⟨a_thing, a_most, a_persons, hp, rfl, rfl⟩ := h; rfl
  · obtain ⟨a_thing, a_most, a_persons, hp, rfl, rfl⟩ := h; exact ⟨_, _, _, _, b_P_are_all_at_is_talk A O a_thing a_most a_persons, rfl⟩
def N_P_is_saying : List Str := ["thing", "persons"]
def C_P_is_saying : Sc := ⟨2, N_P_is_saying, defScope (top 42), true, true⟩
instance : Calm C_P_is_saying := ⟨rfl⟩
theorem V_P_is_saying_0 : Var C_P_is_saying 0 "thing" := var_of (by decide +kernel)
theorem V_P_is_saying_1 : Var C_P_is_saying 1 "persons" := var_of (by decide +kernel)
theorem G_P_is_saying_are_two : Glo C_P_is_saying "are_two" := glo_of (by decide +kernel)
theorem G_P_is_saying_is_hour : Glo C_P_is_saying "is_hour" := glo_of (by decide +kernel)
theorem G_P_is_saying_isinstance : Glo C_P_is_saying "isinstance" := glo_of (by decide +kernel)
theorem G_P_is_saying_len : Glo C_P_is_saying "len" := glo_of (by decide +kernel)
theorem G_P_is_saying_tuple : Glo C_P_is_saying "tuple" := glo_of (by decide +kernel)
theorem b_P_is_saying {G : Cfg} (A : All G) (O : Own) (a_thing : Sy) (a_persons : (List Str)) : SS G C_P_is_saying (defBody (top 42)) (frame0 N_P_is_saying [(dSy G.K) a_thing, (dLo G.K dS) a_persons]) O (fnV dB O) (.rt (m_P_is_saying a_thing a_persons)) := by
  unfold m_P_is_saying
  refine ss_fr70 (Γ1 := [some ((dSy G.K) a_thing), some ((dLo G.K dS) a_persons)]) (by exact ⟨.inr rfl, .inr rfl, trivial⟩) ?_
  refine ss_when .rt (t_w (w_or (t_not (t_val (e_callB (k_isi (b := true) ty_tup (by decide +kernel)) G_P_is_saying_isinstance A.b_isinstance bt_isinstance (a_cons (e_var V_P_is_saying_0 rfl) (a_cons (e_tyname G_P_is_saying_tuple A.b_tuple bt_tuple) a_nil (fun _ => rfl)) (fun _ => rfl)) (fun _ => rfl)) (fun _ _ => rfl))) (fun hb_1 => (w_or (t_cmp c_lt (e_callB k_lenSy G_P_is_saying_len A.b_len bt_len (a_cons (e_var V_P_is_saying_0 rfl) a_nil (fun _ => rfl)) (fun _ => rfl)) e_int rfl) (fun hb_2 => (w_or1 (t_cmp c_ninLS (e_sy1 (e_var V_P_is_saying_0 rfl)) (e_var V_P_is_saying_1 rfl) rfl))))))) (fun _ => nofun) (fun hc_4 => ?_) (fun hc_4 => ?_)
  ·
    exact ss_ret e_bool (fun _ _ _ h => h)
  refine ss_when .rt (t_cmp c_eqS (e_sy0 (e_var V_P_is_saying_0 rfl)) e_str rfl) (fun _ => nofun) (fun hc_5 => ?_) (fun hc_5 => ?_)
  ·
    exact ss_ret (e_and (e_cmp c_eqI (e_callB k_lenSy G_P_is_saying_len A.b_len bt_len (a_cons (e_var V_P_is_saying_0 rfl) a_nil (fun _ => rfl)) (fun _ => rfl)) e_int rfl) (fun hb_6 => (e_and (e_call (k_P_is_hour A) (by decide) G_P_is_saying_is_hour ⟨(Va.int a_thing.h1), True.intro, rfl, rfl⟩ (a_cons (e_eq (e_sy2s hc_5 (e_var V_P_is_saying_0 rfl)) ((fun x => (dA_int x).symm) a_thing.h1)) a_nil (fun _ => rfl)) (fun _ => rfl)) (fun hb_7 => (e_and (e_call (k_P_is_hour A) (by decide) G_P_is_saying_is_hour ⟨(Va.int a_thing.h2), True.intro, rfl, rfl⟩ (a_cons (e_eq (e_sy3s hc_5 (e_var V_P_is_saying_0 rfl)) ((fun x => (dA_int x).symm) a_thing.h2)) a_nil (fun _ => rfl)) (fun _ => rfl)) (fun hb_8 => (e_bool1 (e_cmp c_le (e_sy2s hc_5 (e_var V_P_is_saying_0 rfl)) (e_sy3s hc_5 (e_var V_P_is_saying_0 rfl)) rfl)))))))) (fun _ _ _ h => h)
  refine ss_fr70 (Γ1 := [some ((dSy G.K) a_thing), some ((dLo G.K dS) a_persons)]) (by exact ⟨.inr rfl, .inr rfl, trivial⟩) ?_
  refine ss_when .rt (t_cmp c_neI (e_callB k_lenSy G_P_is_saying_len A.b_len bt_len (a_cons (e_var V_P_is_saying_0 rfl) a_nil (fun _ => rfl)) (fun _ => rfl)) e_int rfl) (fun _ => nofun) (fun hc_10 => ?_) (fun hc_10 => ?_)
  ·
    exact ss_ret e_bool (fun _ _ _ h => h)
  refine ss_when .rt (t_cmp c_eqS (e_sy0 (e_var V_P_is_saying_0 rfl)) e_str rfl) (fun _ => nofun) (fun hc_11 => ?_) (fun hc_11 => ?_)
  ·
    exact ss_ret (e_call (k_P_is_hour A) (by decide) G_P_is_saying_is_hour ⟨(Va.int a_thing.h1), True.intro, rfl, rfl⟩ (a_cons (e_eq (e_sy2k hc_11 (e_var V_P_is_saying_0 rfl)) ((fun x => (dA_int x).symm) a_thing.h1)) a_nil (fun _ => rfl)) (fun _ => rfl)) (fun _ _ _ h => h)
  refine ss_fr70 (Γ1 := [some ((dSy G.K) a_thing), some ((dLo G.K dS) a_persons)]) (by exact ⟨.inr rfl, .inr rfl, trivial⟩) ?_
  refine ss_when .rt (t_cmp c_eqS (e_sy0 (e_var V_P_is_saying_0 rfl)) e_str rfl) (fun _ => nofun) (fun hc_12 => ?_) (fun hc_12 => ?_)
  ·
    exact ss_ret (e_or (e_cmp (c_isO (f := dI) (o := a_thing.ho) notN_I) (e_sy2u hc_12 (e_var V_P_is_saying_0 rfl)) e_none rfl) (fun hb_13 => (e_bool1 (e_call (k_P_is_hour A) (by decide) G_P_is_saying_is_hour ⟨((vaO Va.int) a_thing.ho), True.intro, rfl, rfl⟩ (a_cons (e_eq (e_sy2u hc_12 (e_var V_P_is_saying_0 rfl)) ((any_opt (fun x => (dA_int x).symm)) a_thing.ho)) a_nil (fun _ => rfl)) (fun _ => rfl))))) (fun _ _ _ h => h)
  exact ss_ret (e_and (e_cmp c_eqS (e_sy0 (e_var V_P_is_saying_0 rfl)) e_str rfl) (fun hb_15 => (e_bool1 (e_call (k_P_are_two A) (by decide) G_P_is_saying_are_two ⟨a_thing.who, a_thing.other, a_persons, True.intro, rfl, rfl⟩ (a_cons (e_sy1 (e_var V_P_is_saying_0 rfl)) (a_cons (e_sy2b hb_15 (e_var V_P_is_saying_0 rfl)) (a_cons (e_var V_P_is_saying_1 rfl) a_nil (fun _ => rfl)) (fun _ => rfl)) (fun _ => rfl)) (fun _ => rfl))))) (fun _ _ _ h => h)
theorem k_P_is_saying {G : Cfg} (A : All G) : Callee G 3 "is_saying" (sp_P_is_saying G) := by
  refine A.d_P_is_saying.callee (N := N_P_is_saying) (ps := ["thing", "persons"]) (scope_of rfl rfl rfl (by decide +kernel)) (fun ds O rk h => ?_) (fun _ _ _ _ _ _ us hl => match us, hl with | [_, _], _ => rfl) (fun ds O rk h => ?_)
  · obtain ⟨a_thing, a_persons, hp, rfl, rfl⟩ := h; rfl
  · obtain ⟨a_thing, a_persons, hp, rfl, rfl⟩ := h; exact ⟨_, _, _, _, b_P_is_saying A O a_thing a_persons, rfl⟩
def N_P_are_all_at_is_saying : List Str := ["thing", "most", "persons", "fits", "one"]
def C_P_are_all_at_is_saying : Sc := ⟨3, N_P_are_all_at_is_saying, defScope (top 43), true, true⟩
instance : Calm C_P_are_all_at_is_saying := ⟨rfl⟩
theorem V_P_are_all_at_is_saying_0 : Var C_P_are_all_at_is_saying 0 "thing" := var_of (by decide +kernel)
theorem V_P_are_all_at_is_saying_1 : Var C_P_are_all_at_is_saying 1 "most" := var_of (by decide +kernel)
theorem V_P_are_all_at_is_saying_2 : Var C_P_are_all_at_is_saying 2 "persons" := var_of (by decide +kernel)
theorem V_P_are_all_at_is_saying_3 : Var C_P_are_all_at_is_saying 3 "fits" := var_of (by decide +kernel)
theorem V_P_are_all_at_is_saying_4 : Var C_P_are_all_at_is_saying 4 "one" := var_of (by decide +kernel)
theorem S_P_are_all_at_is_saying_4 : Loca C_P_are_all_at_is_saying 4 "one" := loc_of (by decide +kernel)
theorem G_P_are_all_at_is_saying_isinstance : Glo C_P_are_all_at_is_saying "isinstance" := glo_of (by decide +kernel)
theorem G_P_are_all_at_is_saying_len : Glo C_P_are_all_at_is_saying "len" := glo_of (by decide +kernel)
theorem G_P_are_all_at_is_saying_list : Glo C_P_are_all_at_is_saying "list" := glo_of (by decide +kernel)
theorem b_P_are_all_at_is_saying {G : Cfg} (A : All G) (O : Own) (a_thing : (List Sy)) (a_most : Int) (a_persons : (List Str)) : SS G C_P_are_all_at_is_saying (defBody (top 43)) (frame0 N_P_are_all_at_is_saying [(dLo G.K (dSy G.K)) a_thing, dI a_most, (dLo G.K dS) a_persons, dFn G 3 (sp_P_is_saying G)]) O (fnV dB O) (.rt (m_P_are_all_at_is_saying a_thing a_most a_persons)) := by
  unfold m_P_are_all_at_is_saying
  refine ss_when .rt (t_w (w_or (t_not (t_val (e_callB (k_isi (b := true) ty_lst (by decide +kernel)) G_P_are_all_at_is_saying_isinstance A.b_isinstance bt_isinstance (a_cons (e_var V_P_are_all_at_is_saying_0 rfl) (a_cons (e_tyname G_P_are_all_at_is_saying_list A.b_list bt_list) a_nil (fun _ => rfl)) (fun _ => rfl)) (fun _ => rfl)) (fun _ _ => rfl))) (fun hb_1 => (w_or1 (t_cmp c_gt (e_callB (k_lenLo (xs := a_thing) (f := (dSy G.K))) G_P_are_all_at_is_saying_len A.b_len bt_len (a_cons (e_var V_P_are_all_at_is_saying_0 rfl) a_nil (fun _ => rfl)) (fun _ => rfl)) (e_var V_P_are_all_at_is_saying_1 rfl) rfl))))) (fun _ => nofun) (fun hc_3 => ?_) (fun hc_3 => ?_)
  ·
    exact ss_ret e_bool (fun _ _ _ h => h)
  refine ss_fr70 (Γ1 := [some ((dLo G.K (dSy G.K)) a_thing), some (dI a_most), some ((dLo G.K dS) a_persons), some (dFn G 3 (sp_P_is_saying G)), none]) (by exact ⟨.inr rfl, .inr rfl, .inr rfl, .inr rfl, .inl rfl, trivial⟩) ?_
  refine ss_loop (Γ := [some ((dLo G.K (dSy G.K)) a_thing), some (dI a_most), some ((dLo G.K dS) a_persons), some (dFn G 3 (sp_P_is_saying G)), none]) (df := (dSy G.K)) (s0 := ()) (fun s_4 : Unit => [some ((dLo G.K (dSy G.K)) a_thing), some (dI a_most), some ((dLo G.K dS) a_persons), some (dFn G 3 (sp_P_is_saying G)), none]) (fun (s_4 : Unit) (x_5 : Sy) => ([some ((dLo G.K (dSy G.K)) a_thing), some (dI a_most), some ((dLo G.K dS) a_persons), some (dFn G 3 (sp_P_is_saying G)), none]).set 4 (some ((dSy G.K) x_5))) (fun s_4 : Unit => O) (ei_list (e_var V_P_are_all_at_is_saying_0 rfl)) (by exact ⟨.inr rfl, .inr rfl, .inr rfl, .inr rfl, .inl rfl, trivial⟩) rfl (fun _ => trivial) (fun s_4 x_5 => (tj_name S_P_are_all_at_is_saying_4)) ?_ ?_ (fun _ _ => rfl)
  ·
    intro s_4 x_5 pre_6 post_7 hs_8 hf_9
    have hm_10 : x_5 ∈ a_thing := by rw [hs_8]; simp
    have hpl_11 : pre_6.length < (a_thing).length := by rw [hs_8, List.length_append, List.length_cons]; omega
    refine ss_if Ret.out (t_not (t_val (e_callL V_P_are_all_at_is_saying_3 rfl (by decide) ⟨x_5, a_persons, True.intro, rfl, rfl⟩ (a_cons (e_var V_P_are_all_at_is_saying_4 rfl) (a_cons (e_var V_P_are_all_at_is_saying_2 rfl) a_nil (fun _ => rfl)) (fun _ => rfl)) (fun _ => rfl)) (fun _ _ => rfl))) (fun hc_12 => ?_) (fun hc_12 => ?_)
    ·
      exact ss_ret e_bool (fun _ _ _ h => h)
    ·
      exact ss_end (hold_end (by exact ⟨.inr rfl, .inr rfl, .inr rfl, .inr rfl, .inl rfl, trivial⟩))
  intro s_4 he_L0
  exact ss_ret e_bool (fun _ _ _ h => h)
theorem k_P_are_all_at_is_saying {G : Cfg} (A : All G) : Callee G 4 "are_all" (sp_P_are_all_at_is_saying G) := by
  refine A.d_P_are_all.callee (N := N_P_are_all_at_is_saying) (ps := ["thing", "most", "persons", "fits"]) (scope_of rfl rfl rfl (by decide +kernel)) (fun ds O rk h => ?_) (fun _ _ _ _ _ _ us hl => match us, hl with | [_, _, _, _], _ => rfl) (fun ds O rk h => ?_)
  · obtain ⟨a_thing, a_most, a_persons, hp, rfl, rfl⟩ := h; rfl
  · obtain ⟨a_thing, a_most, a_persons, hp, rfl, rfl⟩ := h; exact ⟨_, _, _, _, b_P_are_all_at_is_saying A O a_thing a_most a_persons, rfl⟩
def N_P_Book : List Str := ["self", "persons", "sights", "talks", "sayings"]
def C_P_Book : Sc := ⟨5, N_P_Book, defScope (inClass (top 44) 0), true, true⟩
instance : Calm C_P_Book := ⟨rfl⟩
theorem V_P_Book_0 : Var C_P_Book 0 "self" := var_of (by decide +kernel)
theorem V_P_Book_1 : Var C_P_Book 1 "persons" := var_of (by decide +kernel)
theorem V_P_Book_2 : Var C_P_Book 2 "sights" := var_of (by decide +kernel)
theorem V_P_Book_3 : Var C_P_Book 3 "talks" := var_of (by decide +kernel)
theorem V_P_Book_4 : Var C_P_Book 4 "sayings" := var_of (by decide +kernel)
theorem G_P_Book_MOST_SAYINGS : Glo C_P_Book "MOST_SAYINGS" := glo_of (by decide +kernel)
theorem G_P_Book_MOST_SIGHTS : Glo C_P_Book "MOST_SIGHTS" := glo_of (by decide +kernel)
theorem G_P_Book_MOST_TALKS : Glo C_P_Book "MOST_TALKS" := glo_of (by decide +kernel)
theorem G_P_Book_are_all : Glo C_P_Book "are_all" := glo_of (by decide +kernel)
theorem G_P_Book_are_persons : Glo C_P_Book "are_persons" := glo_of (by decide +kernel)
theorem G_P_Book_is_saying : Glo C_P_Book "is_saying" := glo_of (by decide +kernel)
theorem G_P_Book_is_sight : Glo C_P_Book "is_sight" := glo_of (by decide +kernel)
theorem G_P_Book_is_talk : Glo C_P_Book "is_talk" := glo_of (by decide +kernel)
theorem G_P_Book_list : Glo C_P_Book "list" := glo_of (by decide +kernel)
theorem b_P_Book {G : Cfg} (A : All G) (O : Own) (p : Addr) (a_persons : (List Str)) (a_sights : (List (Str × Int × (List Str)))) (a_talks : (List (Int × Str × Str × Str))) (a_sayings : (List Sy)) (hpre : goodBook a_persons a_sights a_talks a_sayings) : SS G C_P_Book (defBody (inClass (top 44) 0)) (frame0 N_P_Book [dP p, (dLo G.K dS) a_persons, (dLo G.K (dT3 G.K dS dI (dVt G.K dS))) a_sights, (dLo G.K (dT4 G.K dI dS dS dS)) a_talks, (dLo G.K (dSy G.K)) a_sayings]) ((p, oIns G "Book" [] []) :: O) (⟨fun _ : Unit => SD.of [some (dP p), some ((dLo G.K dS) a_persons), some ((dLo G.K (dT3 G.K dS dI (dVt G.K dS))) a_sights), some ((dLo G.K (dT4 G.K dI dS dS dS)) a_talks), some ((dLo G.K (dSy G.K)) a_sayings)] ((p, oIns G "Book" bookNs (bookDs G.K (m_P_Book a_persons a_sights a_talks a_sayings))) :: O), fun e : Empty => e.elim, fun _ => XD.no⟩) (.nx ()) := by
  refine ss_skip (t_eq (t_not (t_val (e_call (k_P_are_persons A) (by decide) G_P_Book_are_persons ⟨a_persons, True.intro, rfl, rfl⟩ (a_cons (e_var V_P_Book_1 rfl) a_nil (fun _ => rfl)) (fun _ => rfl)) (fun _ _ => rfl))) (b := (!(m_P_are_persons a_persons))) (by rw [hpre.1]; rfl)) ?_
  refine ss_skip (t_eq (t_not (t_val (e_call (k_P_are_all_at_is_sight A) (by decide) G_P_Book_are_all ⟨a_sights, (24 : Int), a_persons, True.intro, rfl, rfl⟩ (a_cons (e_var V_P_Book_2 rfl) (a_cons (e_globI G_P_Book_MOST_SIGHTS A.c_MOST_SIGHTS) (a_cons (e_var V_P_Book_1 rfl) (a_cons (e_fn (k_P_is_sight A) G_P_Book_is_sight) a_nil (fun _ => rfl)) (fun _ => rfl)) (fun _ => rfl)) (fun _ => rfl)) (fun _ => rfl)) (fun _ _ => rfl))) (b := (!(m_P_are_all_at_is_sight a_sights (24 : Int) a_persons))) (by rw [hpre.2.1]; rfl)) ?_
  refine ss_skip (t_eq (t_not (t_val (e_call (k_P_are_all_at_is_talk A) (by decide) G_P_Book_are_all ⟨a_talks, (120 : Int), a_persons, True.intro, rfl, rfl⟩ (a_cons (e_var V_P_Book_3 rfl) (a_cons (e_globI G_P_Book_MOST_TALKS A.c_MOST_TALKS) (a_cons (e_var V_P_Book_1 rfl) (a_cons (e_fn (k_P_is_talk A) G_P_Book_is_talk) a_nil (fun _ => rfl)) (fun _ => rfl)) (fun _ => rfl)) (fun _ => rfl)) (fun _ => rfl)) (fun _ _ => rfl))) (b := (!(m_P_are_all_at_is_talk a_talks (120 : Int) a_persons))) (by rw [hpre.2.2.1]; rfl)) ?_
  refine ss_skip (t_eq (t_not (t_val (e_call (k_P_are_all_at_is_saying A) (by decide) G_P_Book_are_all ⟨a_sayings, (60 : Int), a_persons, True.intro, rfl, rfl⟩ (a_cons (e_var V_P_Book_4 rfl) (a_cons (e_globI G_P_Book_MOST_SAYINGS A.c_MOST_SAYINGS) (a_cons (e_var V_P_Book_1 rfl) (a_cons (e_fn (k_P_is_saying A) G_P_Book_is_saying) a_nil (fun _ => rfl)) (fun _ => rfl)) (fun _ => rfl)) (fun _ => rfl)) (fun _ => rfl)) (fun _ _ => rfl))) (b := (!(m_P_are_all_at_is_saying a_sayings (60 : Int) a_persons))) (by rw [hpre.2.2.2]; rfl)) ?_
  refine ss_fld (n := 0) rfl (e_var V_P_Book_0 rfl) (en_lst (en_callT k_listL G_P_Book_list A.b_list bt_list (a_cons (e_var V_P_Book_1 rfl) a_nil (fun _ => rfl)) (fun _ => rfl))) (by decide +kernel) A.a_Book_crew (by decide) (fun _ => rfl) ?_
  refine ss_fld (n := 0) rfl (e_var V_P_Book_0 rfl) (en_lst (en_callT k_listL G_P_Book_list A.b_list bt_list (a_cons (e_var V_P_Book_2 rfl) a_nil (fun _ => rfl)) (fun _ => rfl))) (by decide +kernel) A.a_Book_views (by decide) (fun _ => rfl) ?_
  refine ss_fld (n := 0) rfl (e_var V_P_Book_0 rfl) (en_lst (en_callT k_listL G_P_Book_list A.b_list bt_list (a_cons (e_var V_P_Book_3 rfl) a_nil (fun _ => rfl)) (fun _ => rfl))) (by decide +kernel) A.a_Book_meetings (by decide) (fun _ => rfl) ?_
  refine ss_fld (n := 0) rfl (e_var V_P_Book_0 rfl) (en_lst (en_callT k_listL G_P_Book_list A.b_list bt_list (a_cons (e_var V_P_Book_4 rfl) a_nil (fun _ => rfl)) (fun _ => rfl))) (by decide +kernel) A.a_Book_claims (by decide) (fun _ => rfl) ?_
  exact ss_nil (hold_end FrLe.refl)
theorem k_P_Book {G : Cfg} (A : All G) : CalI G 6 "Book" (sp_P_Book G) := by
  refine A.i_Book.callee (N := N_P_Book) (ps := ["self", "persons", "sights", "talks", "sayings"]) (scope_of rfl rfl rfl (by decide +kernel)) (fun ds O rk h => ?_) (fun _ _ _ _ _ _ us hl => match us, hl with | [_, _, _, _, _], _ => rfl) (fun ds O rk h => ?_)
  · obtain ⟨p, O1, a_persons, a_sights, a_talks, a_sayings, hp, rfl, rfl, rfl⟩ := h; rfl
  · obtain ⟨p, O1, a_persons, a_sights, a_talks, a_sayings, hp, rfl, rfl, rfl⟩ := h; exact ⟨_, _, _, _, b_P_Book A O1 p a_persons a_sights a_talks a_sayings hp, fun F σ H ⟨F2, e2, h2⟩ => ⟨rfl, F2, e2, h2.ho⟩⟩
def N_P_Book_sights : List Str := ["self"]
def C_P_Book_sights : Sc := ⟨0, N_P_Book_sights, defScope (inClass (top 44) 2), true, true⟩
instance : Calm C_P_Book_sights := ⟨rfl⟩
theorem V_P_Book_sights_0 : Var C_P_Book_sights 0 "self" := var_of (by decide +kernel)
theorem G_P_Book_sights_list : Glo C_P_Book_sights "list" := glo_of (by decide +kernel)
theorem b_P_Book_sights {G : Cfg} (A : All G) (O : Own) (a_self : BookV) : SS G C_P_Book_sights (defBody (inClass (top 44) 2)) (frame0 N_P_Book_sights [(dBook G) a_self]) O (fnN (fun r => oLst (List.map (dT3 G.K dS dI (dVt G.K dS)) r)) O) (.rt (m_P_Book_sights a_self)) := by
  unfold m_P_Book_sights
  exact ss_retN (en_callT k_listL G_P_Book_sights_list A.b_list bt_list (a_cons (e_fld (i := 1) (e_var V_P_Book_sights_0 rfl) (by decide +kernel) rfl rfl A.a_Book_views (fun _ => rfl)) a_nil (fun _ => rfl)) (fun _ => rfl)) (fun _ _ _ h => h)
theorem k_P_Book_sights {G : Cfg} (A : All G) : CalM G 1 "Book" "sights" (sp_P_Book_sights G) := by
  refine A.d_P_Book_sights.callee (N := N_P_Book_sights) (ps := ["self"]) (scope_of rfl rfl rfl (by decide +kernel)) (fun ds O rk h => ?_) (fun _ _ _ _ _ _ us hl => match us, hl with | [_], _ => rfl) (fun ds O rk h => ?_)
  · obtain ⟨a_self, hp, rfl, rfl⟩ := h; rfl
  · obtain ⟨a_self, hp, rfl, rfl⟩ := h; exact ⟨_, _, _, _, b_P_Book_sights A O a_self, rfl⟩
def N_P_Book_talks : List Str := ["self"]
def C_P_Book_talks : Sc := ⟨0, N_P_Book_talks, defScope (inClass (top 44) 3), true, true⟩
instance : Calm C_P_Book_talks := ⟨rfl⟩
theorem V_P_Book_talks_0 : Var C_P_Book_talks 0 "self" := var_of (by decide +kernel)
theorem G_P_Book_talks_list : Glo C_P_Book_talks "list" := glo_of (by decide +kernel)
theorem b_P_Book_talks {G : Cfg} (A : All G) (O : Own) (a_self : BookV) : SS G C_P_Book_talks (defBody (inClass (top 44) 3)) (frame0 N_P_Book_talks [(dBook G) a_self]) O (fnN (fun r => oLst (List.map (dT4 G.K dI dS dS dS) r)) O) (.rt (m_P_Book_talks a_self)) := by
  unfold m_P_Book_talks
  exact ss_retN (en_callT k_listL G_P_Book_talks_list A.b_list bt_list (a_cons (e_fld (i := 2) (e_var V_P_Book_talks_0 rfl) (by decide +kernel) rfl rfl A.a_Book_meetings (fun _ => rfl)) a_nil (fun _ => rfl)) (fun _ => rfl)) (fun _ _ _ h => h)
theorem k_P_Book_talks {G : Cfg} (A : All G) : CalM G 1 "Book" "talks" (sp_P_Book_talks G) := by
  refine A.d_P_Book_talks.callee (N := N_P_Book_talks) (ps := ["self"]) (scope_of rfl rfl rfl (by decide +kernel)) (fun ds O rk h => ?_) (fun _ _ _ _ _ _ us hl => match us, hl with | [_], _ => rfl) (fun ds O rk h => ?_)
  · obtain ⟨a_self, hp, rfl, rfl⟩ := h; rfl
  · obtain ⟨a_self, hp, rfl, rfl⟩ := h; exact ⟨_, _, _, _, b_P_Book_talks A O a_self, rfl⟩
def N_P_Book_persons : List Str := ["self"]
def C_P_Book_persons : Sc := ⟨0, N_P_Book_persons, defScope (inClass (top 44) 1), true, true⟩
instance : Calm C_P_Book_persons := ⟨rfl⟩
theorem V_P_Book_persons_0 : Var C_P_Book_persons 0 "self" := var_of (by decide +kernel)
theorem G_P_Book_persons_list : Glo C_P_Book_persons "list" := glo_of (by decide +kernel)
theorem b_P_Book_persons {G : Cfg} (A : All G) (O : Own) (a_self : BookV) : SS G C_P_Book_persons (defBody (inClass (top 44) 1)) (frame0 N_P_Book_persons [(dBook G) a_self]) O (fnN (fun r => oLst (List.map dS r)) O) (.rt (m_P_Book_persons a_self)) := by
  unfold m_P_Book_persons
  exact ss_retN (en_callT k_listL G_P_Book_persons_list A.b_list bt_list (a_cons (e_fld (i := 0) (e_var V_P_Book_persons_0 rfl) (by decide +kernel) rfl rfl A.a_Book_crew (fun _ => rfl)) a_nil (fun _ => rfl)) (fun _ => rfl)) (fun _ _ _ h => h)
theorem k_P_Book_persons {G : Cfg} (A : All G) : CalM G 1 "Book" "persons" (sp_P_Book_persons G) := by
  refine A.d_P_Book_persons.callee (N := N_P_Book_persons) (ps := ["self"]) (scope_of rfl rfl rfl (by decide +kernel)) (fun ds O rk h => ?_) (fun _ _ _ _ _ _ us hl => match us, hl with | [_], _ => rfl) (fun ds O rk h => ?_)
  · obtain ⟨a_self, hp, rfl, rfl⟩ := h; rfl
  · obtain ⟨a_self, hp, rfl, rfl⟩ := h; exact ⟨_, _, _, _, b_P_Book_persons A O a_self, rfl⟩
def N_P_Book_sayings : List Str := ["self"]
def C_P_Book_sayings : Sc := ⟨0, N_P_Book_sayings, defScope (inClass (top 44) 4), true, true⟩
instance : Calm C_P_Book_sayings := ⟨rfl⟩
theorem V_P_Book_sayings_0 : Var C_P_Book_sayings 0 "self" := var_of (by decide +kernel)
theorem G_P_Book_sayings_list : Glo C_P_Book_sayings "list" := glo_of (by decide +kernel)
theorem b_P_Book_sayings {G : Cfg} (A : All G) (O : Own) (a_self : BookV) : SS G C_P_Book_sayings (defBody (inClass (top 44) 4)) (frame0 N_P_Book_sayings [(dBook G) a_self]) O (fnN (fun r => oLst (List.map (dSy G.K) r)) O) (.rt (m_P_Book_sayings a_self)) := by
  unfold m_P_Book_sayings
  exact ss_retN (en_callT k_listL G_P_Book_sayings_list A.b_list bt_list (a_cons (e_fld (i := 3) (e_var V_P_Book_sayings_0 rfl) (by decide +kernel) rfl rfl A.a_Book_claims (fun _ => rfl)) a_nil (fun _ => rfl)) (fun _ => rfl)) (fun _ _ _ h => h)
theorem k_P_Book_sayings {G : Cfg} (A : All G) : CalM G 1 "Book" "sayings" (sp_P_Book_sayings G) := by
  refine A.d_P_Book_sayings.callee (N := N_P_Book_sayings) (ps := ["self"]) (scope_of rfl rfl rfl (by decide +kernel)) (fun ds O rk h => ?_) (fun _ _ _ _ _ _ us hl => match us, hl with | [_], _ => rfl) (fun ds O rk h => ?_)
  · obtain ⟨a_self, hp, rfl, rfl⟩ := h; rfl
  · obtain ⟨a_self, hp, rfl, rfl⟩ := h; exact ⟨_, _, _, _, b_P_Book_sayings A O a_self, rfl⟩
def N_P_greater_floor : List Str := ["one", "other"]
def C_P_greater_floor : Sc := ⟨0, N_P_greater_floor, defScope (top 2), true, true⟩
instance : Calm C_P_greater_floor := ⟨rfl⟩
theorem V_P_greater_floor_0 : Var C_P_greater_floor 0 "one" := var_of (by decide +kernel)
theorem V_P_greater_floor_1 : Var C_P_greater_floor 1 "other" := var_of (by decide +kernel)
theorem G_P_greater_floor_max : Glo C_P_greater_floor "max" := glo_of (by decide +kernel)
theorem b_P_greater_floor {G : Cfg} (A : All G) (O : Own) (a_one : (Option Int)) (a_other : (Option Int)) : SS G C_P_greater_floor (defBody (top 2)) (frame0 N_P_greater_floor [(dO dI) a_one, (dO dI) a_other]) O (fnV (dO dI) O) (.rt (m_P_greater_floor a_one a_other)) := by
  unfold m_P_greater_floor
  refine ss_fr70 (Γ1 := [some ((dO dI) a_one), some ((dO dI) a_other)]) (by exact ⟨.inr rfl, .inr rfl, trivial⟩) ?_
  refine ss_when .rt (t_w (w_or (t_cmp (c_isO (f := dI) (o := a_one) notN_I) (e_var V_P_greater_floor_0 rfl) e_none rfl) (fun hb_1 => (w_or1 (t_cmp (c_isO (f := dI) (o := a_other) notN_I) (e_var V_P_greater_floor_1 rfl) e_none rfl))))) (fun _ => nofun) (fun hc_3 => ?_) (fun hc_3 => ?_)
  ·
    exact ss_ret e_none (fun _ _ _ h => h)
  exact ss_ret (e_callB k_max2 G_P_greater_floor_max A.b_max bt_max (a_cons (e_eq (e_var V_P_greater_floor_0 rfl) (o_some (orL hc_3))) (a_cons (e_eq (e_var V_P_greater_floor_1 rfl) (o_some (orR hc_3))) a_nil (fun _ => rfl)) (fun _ => rfl)) (fun _ => rfl)) (fun _ _ _ h => h)
theorem k_P_greater_floor {G : Cfg} (A : All G) : Callee G 1 "greater_floor" (sp_P_greater_floor G) := by
  refine A.d_P_greater_floor.callee (N := N_P_greater_floor) (ps := ["one", "other"]) (scope_of rfl rfl rfl (by decide +kernel)) (fun ds O rk h => ?_) (fun _ _ _ _ _ _ us hl => match us, hl with | [_, _], _ => rfl) (fun ds O rk h => ?_)
  · obtain ⟨a_one, a_other, hp, rfl, rfl⟩ := h; rfl
  · obtain ⟨a_one, a_other, hp, rfl, rfl⟩ := h; exact ⟨_, _, _, _, b_P_greater_floor A O a_one a_other, rfl⟩
def N_P_floors : List Str := ["book", "found", "person", "saying"]
def C_P_floors : Sc := ⟨1, N_P_floors, defScope (top 3), true, true⟩
instance : Calm C_P_floors := ⟨rfl⟩
theorem V_P_floors_0 : Var C_P_floors 0 "book" := var_of (by decide +kernel)
theorem V_P_floors_1 : Var C_P_floors 1 "found" := var_of (by decide +kernel)
theorem V_P_floors_2 : Var C_P_floors 2 "person" := var_of (by decide +kernel)
theorem V_P_floors_3 : Var C_P_floors 3 "saying" := var_of (by decide +kernel)
theorem S_P_floors_1 : Loca C_P_floors 1 "found" := loc_of (by decide +kernel)
theorem S_P_floors_2 : Loca C_P_floors 2 "person" := loc_of (by decide +kernel)
theorem S_P_floors_3 : Loca C_P_floors 3 "saying" := loc_of (by decide +kernel)
theorem G_P_floors_greater_floor : Glo C_P_floors "greater_floor" := glo_of (by decide +kernel)
theorem b_P_floors {G : Cfg} (A : All G) (O : Own) (a_book : BookV) (hpre : BkOk a_book) : SS G C_P_floors (defBody (top 3)) (frame0 N_P_floors [(dBook G) a_book]) O (fnN (fun r => oDc kS (dO dI) r) O) (.rt (m_P_floors a_book)) := by
  unfold m_P_floors
  have hz1 : (m_P_Book_persons a_book).length ≤ 24 := hpre.lc
  have hz2 : (m_P_Book_sayings a_book).length ≤ 60 := hpre.ly
  have hn0 : ([] : List (Str × Option Int)).length = 0 := rfl
  refine ss_fr70 (Γ1 := [some ((dBook G) a_book), none, none, none]) (by exact ⟨.inr rfl, .inl rfl, .inl rfl, .inl rfl, trivial⟩) ?_
  refine ss_new (od := oDc kS (dO dI) ([] : (List (Str × (Option Int))))) S_P_floors_1 (fun _ => rfl) en_dic0 ?_
  intro p_found_1
  refine ss_fold (Γ := [some ((dBook G) a_book), some (dP p_found_1), none, none]) (df := dS) (s0 := ([] : (List (Str × (Option Int))))) .rt (fun s_3 : (List (Str × (Option Int))) => [some ((dBook G) a_book), some (dP p_found_1), none, none]) (fun (s_3 : (List (Str × (Option Int)))) (x_4 : Str) => ([some ((dBook G) a_book), some (dP p_found_1), none, none]).set 2 (some (dS x_4))) (fun s_3 : (List (Str × (Option Int))) => ((p_found_1, oDc kS (dO dI) s_3) :: O)) (ei_list (en_lst (en_meth0 (k_P_Book_persons A) (by decide) (e_var V_P_floors_0 rfl) (by decide +kernel) ⟨a_book, True.intro, rfl, rfl⟩ (fun _ => ⟨_, rfl⟩)))) (by exact ⟨.inr rfl, .inr rfl, .inl rfl, .inl rfl, trivial⟩) rfl (fun _ => trivial) (fun s_3 x_4 => (tj_name S_P_floors_2)) ?_ ?_ (fun _ _ => rfl)
  ·
    intro s_3 x_4 pre_5 post_6 hs_7 hf_8
    have hm_9 : x_4 ∈ (m_P_Book_persons a_book) := by rw [hs_7]; simp
    have hpl_10 : pre_5.length < ((m_P_Book_persons a_book)).length := by rw [hs_7, List.length_append, List.length_cons]; omega
    have hgrow_11 : (s_3).length ≤ (([] : (List (Str × (Option Int))))).length + 1 * pre_5.length := by
      rw [hf_8]
      refine foldl_meas (m := fun s_3 : (List (Str × (Option Int))) => (s_3).length) ?_ (s0 := ([] : (List (Str × (Option Int)))))
      intro _ _
      first | exact app_le | exact putIf_len | (simp only [lt]; exact dPut_len) | (simp only [lt]; split <;> first | exact dPut_len | omega) | ((try simp only [lt]); (repeat' split) <;> first | exact dPut_len | exact Nat.le_succ _) | (simp only [lt, slen_app, signAt_len, List.length_append, List.length_cons, List.length_nil]; omega) | ((try simp only [lt]); (repeat' split) <;> ((try simp only [lt, slen_app, signAt_len, List.length_append, List.length_cons, List.length_nil]); omega))
    refine ss_putD (f := (dO dI)) (kvs := s_3) (y := (some (-(1 : Int)))) (n := 0) .nx (fun _ _ => kS_inj) rfl (e_var V_P_floors_1 rfl) isK_S (e_var V_P_floors_2 rfl) (e_neg e_int) (by trivial) (fun _ => rfl) ?_
    intro found_12 hfound_12
    exact ss_end (hold_end (by exact ⟨.inr rfl, .inr rfl, .inl rfl, .inl rfl, trivial⟩))
  intro s_3 he_L0
  have hgrow_29 : (s_3).length ≤ (([] : (List (Str × (Option Int))))).length + 1 * ((m_P_Book_persons a_book)).length := by
    rw [he_L0]
    refine foldl_meas (m := fun s_3 : (List (Str × (Option Int))) => (s_3).length) ?_ (s0 := ([] : (List (Str × (Option Int)))))
    intro _ _
    first | exact app_le | exact putIf_len | (simp only [lt]; exact dPut_len) | (simp only [lt]; split <;> first | exact dPut_len | omega) | ((try simp only [lt]); (repeat' split) <;> first | exact dPut_len | exact Nat.le_succ _) | (simp only [lt, slen_app, signAt_len, List.length_append, List.length_cons, List.length_nil]; omega) | ((try simp only [lt]); (repeat' split) <;> ((try simp only [lt, slen_app, signAt_len, List.length_append, List.length_cons, List.length_nil]); omega))
  refine ss_fr70 (Γ1 := [some ((dBook G) a_book), some (dP p_found_1), none, none]) (by exact ⟨.inr rfl, .inr rfl, .inl rfl, .inl rfl, trivial⟩) ?_
  refine ss_fold (Γ := [some ((dBook G) a_book), some (dP p_found_1), none, none]) (df := (dSy G.K)) (s0 := s_3) .rt (fun s_13 : (List (Str × (Option Int))) => [some ((dBook G) a_book), some (dP p_found_1), none, none]) (fun (s_13 : (List (Str × (Option Int)))) (x_14 : Sy) => ([some ((dBook G) a_book), some (dP p_found_1), none, none]).set 3 (some ((dSy G.K) x_14))) (fun s_13 : (List (Str × (Option Int))) => ((p_found_1, oDc kS (dO dI) s_13) :: O)) (ei_list (en_lst (en_meth0 (k_P_Book_sayings A) (by decide) (e_var V_P_floors_0 rfl) (by decide +kernel) ⟨a_book, True.intro, rfl, rfl⟩ (fun _ => ⟨_, rfl⟩)))) (by exact ⟨.inr rfl, .inr rfl, .inl rfl, .inl rfl, trivial⟩) rfl (fun _ => trivial) (fun s_13 x_14 => (tj_name S_P_floors_3)) ?_ ?_ (fun _ _ => rfl)
  ·
    intro s_13 x_14 pre_15 post_16 hs_17 hf_18
    have hm_19 : x_14 ∈ (m_P_Book_sayings a_book) := by rw [hs_17]; simp
    have hpl_20 : pre_15.length < ((m_P_Book_sayings a_book)).length := by rw [hs_17, List.length_append, List.length_cons]; omega
    have hgrow_21 : (s_13).length ≤ (s_3).length + 1 * pre_15.length := by
      rw [hf_18]
      refine foldl_meas (m := fun s_13 : (List (Str × (Option Int))) => (s_13).length) ?_ (s0 := s_3)
      intro _ _
      first | exact app_le | exact putIf_len | (simp only [lt]; exact dPut_len) | (simp only [lt]; split <;> first | exact dPut_len | omega) | ((try simp only [lt]); (repeat' split) <;> first | exact dPut_len | exact Nat.le_succ _) | (simp only [lt, slen_app, signAt_len, List.length_append, List.length_cons, List.length_nil]; omega) | ((try simp only [lt]); (repeat' split) <;> ((try simp only [lt, slen_app, signAt_len, List.length_append, List.length_cons, List.length_nil]); omega))
    have hfst : ∀ p ∈ a_book.crew, dHas s_13 p = true := floors_has hf_18 he_L0
    have hwho : dHas s_13 x_14.who = true := hfst _ (hpre.who _ (by rw [show a_book.claims = _ from hs_17]; simp))
    have hz3 := floors_len he_L0
    refine ss_if .nx (t_cmp c_eqS (e_sy0 (e_var V_P_floors_3 rfl)) e_str rfl) (fun hc_22 => ?_) (fun hc_22 => ?_)
    ·
      refine ss_putD (f := (dO dI)) (kvs := s_13) (y := (m_P_greater_floor (dGet s_13 x_14.who) x_14.ho)) (n := 0) .nx (fun _ _ => kS_inj) rfl (e_var V_P_floors_1 rfl) isK_S (e_sy1 (e_var V_P_floors_3 rfl)) (e_call (k_P_greater_floor A) (by decide) G_P_floors_greater_floor ⟨(dGet s_13 x_14.who), x_14.ho, True.intro, rfl, rfl⟩ (a_cons (e_getD (f := (dO dI)) (kvs := s_13) (fun _ _ => kS_inj) (n := 0) rfl (e_var V_P_floors_1 rfl) isK_S (e_sy1 (e_var V_P_floors_3 rfl)) (by trivial) (fun _ _ => rfl)) (a_cons (e_sy2u hc_22 (e_var V_P_floors_3 rfl)) a_nil (fun _ => rfl)) (fun _ => rfl)) (fun _ => rfl)) (by trivial) (fun _ => rfl) ?_
      intro found_23 hfound_23
      exact ss_end (hold_end (by exact ⟨.inr rfl, .inr rfl, .inl rfl, .inl rfl, trivial⟩))
    ·
      exact ss_end (hold_end (by exact ⟨.inr rfl, .inr rfl, .inl rfl, .inl rfl, trivial⟩))
  intro s_13 he_L1
  have hgrow_26 : (s_13).length ≤ (s_3).length + 1 * ((m_P_Book_sayings a_book)).length := by
    rw [he_L1]
    refine foldl_meas (m := fun s_13 : (List (Str × (Option Int))) => (s_13).length) ?_ (s0 := s_3)
    intro _ _
    first | exact app_le | exact putIf_len | (simp only [lt]; exact dPut_len) | (simp only [lt]; split <;> first | exact dPut_len | omega) | ((try simp only [lt]); (repeat' split) <;> first | exact dPut_len | exact Nat.le_succ _) | (simp only [lt, slen_app, signAt_len, List.length_append, List.length_cons, List.length_nil]; omega) | ((try simp only [lt]); (repeat' split) <;> ((try simp only [lt, slen_app, signAt_len, List.length_append, List.length_cons, List.length_nil]); omega))
  exact ss_retO V_P_floors_1 rfl (fun _ _ _ h => h)
theorem k_P_floors {G : Cfg} (A : All G) : Callee G 2 "floors" (sp_P_floors G) := by
  refine A.d_P_floors.callee (N := N_P_floors) (ps := ["book"]) (scope_of rfl rfl rfl (by decide +kernel)) (fun ds O rk h => ?_) (fun _ _ _ _ _ _ us hl => match us, hl with | [_], _ => rfl) (fun ds O rk h => ?_)
  · obtain ⟨a_book, hp, rfl, rfl⟩ := h; rfl
  · obtain ⟨a_book, hp, rfl, rfl⟩ := h; exact ⟨_, _, _, _, b_P_floors A O a_book hp, rfl⟩
def N_P_spans_of : List Str := ["book", "found", "saying"]
def C_P_spans_of : Sc := ⟨1, N_P_spans_of, defScope (top 6), true, true⟩
instance : Calm C_P_spans_of := ⟨rfl⟩
theorem V_P_spans_of_0 : Var C_P_spans_of 0 "book" := var_of (by decide +kernel)
theorem V_P_spans_of_1 : Var C_P_spans_of 1 "found" := var_of (by decide +kernel)
theorem V_P_spans_of_2 : Var C_P_spans_of 2 "saying" := var_of (by decide +kernel)
theorem S_P_spans_of_1 : Loca C_P_spans_of 1 "found" := loc_of (by decide +kernel)
theorem S_P_spans_of_2 : Loca C_P_spans_of 2 "saying" := loc_of (by decide +kernel)
theorem b_P_spans_of {G : Cfg} (A : All G) (O : Own) (a_book : BookV) (hpre : BkOk a_book) : SS G C_P_spans_of (defBody (top 6)) (frame0 N_P_spans_of [(dBook G) a_book]) O (fnV (dDc kS (dLo G.K (dT2 G.K dI dI))) O) (.rt (m_P_spans_of a_book)) := by
  unfold m_P_spans_of
  have hz2 : (m_P_Book_sayings a_book).length ≤ 60 := hpre.ly
  refine ss_new (od := oGd ([] : (List (Str × List (Int × Int)))) []) S_P_spans_of_1 (fun _ => rfl) en_gd0 ?_
  intro p_found_1
  refine ss_fr70 (Γ1 := [some ((dBook G) a_book), some (dP p_found_1), none]) (by exact ⟨.inr rfl, .inr rfl, .inl rfl, trivial⟩) ?_
  refine ss_foldX (Γ := [some ((dBook G) a_book), some (dP p_found_1), none]) (df := (dSy G.K)) (s0 := ([] : (List (Str × List (Int × Int))))) (a0 := []) .rt [some ((dBook G) a_book), some (dP p_found_1), none] (fun x_4 => ([some ((dBook G) a_book), some (dP p_found_1), none]).set 2 (some ((dSy G.K) x_4))) (fun (s_3 : (List (Str × List (Int × Int)))) (as_5 : List Addr) => (grp p_found_1 (dT2 G.K dI dI) s_3 as_5 (O))) (ei_list (en_lst (en_meth0 (k_P_Book_sayings A) (by decide) (e_var V_P_spans_of_0 rfl) (by decide +kernel) ⟨a_book, True.intro, rfl, rfl⟩ (fun _ => ⟨_, rfl⟩)))) (by exact ⟨.inr rfl, .inr rfl, .inl rfl, trivial⟩) rfl (fun _ _ => trivial) (fun x_4 => (tj_name S_P_spans_of_2)) ?_ ?_ (fun _ _ => rfl)
  ·
    intro s_3 as_5 x_4 pre_6 post_7 hs_8 hf_9
    have hm_10 : x_4 ∈ (m_P_Book_sayings a_book) := by rw [hs_8]; simp
    have hpl_11 : pre_6.length < ((m_P_Book_sayings a_book)).length := by rw [hs_8, List.length_append, List.length_cons]; omega
    have hgrow_12 : gsz s_3 ≤ 0 + 2 * pre_6.length := by
      rw [hf_9]
      exact (foldl_gsz (fun _ _ h => by (try split) <;> first | exact gsz_step h | exact gsz_keep h) nd0).2
    refine ss_if .nx (t_cmp c_eqS (e_sy0 (e_var V_P_spans_of_2 rfl)) e_str rfl) (fun hc_13 => ?_) (fun hc_13 => ?_)
    ·
      refine ss_setdef (f := (dT2 G.K dI dI)) (kvs := s_3) (y := (x_4.h1, x_4.h2)) (fun O => e_var V_P_spans_of_1 rfl) (fun O => (e_sy1 (e_var V_P_spans_of_2 rfl))) (fun O => (e_tup (a_cons (e_sy2s hc_13 (e_var V_P_spans_of_2 rfl)) (a_cons (e_sy3s hc_13 (e_var V_P_spans_of_2 rfl)) a_nil (fun _ => rfl)) (fun _ => rfl)) (Nat.le_of_ble_eq_true rfl))) (gsz_lt (by trivial)) (fun _ => ⟨rfl, rfl, rfl, rfl⟩) (fun _ => rfl) rfl (fun _ => rfl) ?_
      intro as_14
      exact ss_end (hold_endX (O1 := (fun as_ => (grp p_found_1 (dT2 G.K dI dI) (dApp s_3 x_4.who (x_4.h1, x_4.h2)) as_ (O)))) (a := as_14) (by exact ⟨.inr rfl, .inr rfl, .inl rfl, trivial⟩))
    ·
      exact ss_end (hold_endX (O1 := (fun as_ => (grp p_found_1 (dT2 G.K dI dI) s_3 as_ (O)))) (a := as_5) (by exact ⟨.inr rfl, .inr rfl, .inl rfl, trivial⟩))
  intro s_3 as_5 he_L0
  exact ss_retG V_P_spans_of_1 rfl (fun _ _ _ h => h)
theorem k_P_spans_of {G : Cfg} (A : All G) : Callee G 2 "spans_of" (sp_P_spans_of G) := by
  refine A.d_P_spans_of.callee (N := N_P_spans_of) (ps := ["book"]) (scope_of rfl rfl rfl (by decide +kernel)) (fun ds O rk h => ?_) (fun _ _ _ _ _ _ us hl => match us, hl with | [_], _ => rfl) (fun ds O rk h => ?_)
  · obtain ⟨a_book, hp, rfl, rfl⟩ := h; rfl
  · obtain ⟨a_book, hp, rfl, rfl⟩ := h; exact ⟨_, _, _, _, b_P_spans_of A O a_book hp, rfl⟩
def N_P_bars_of : List Str := ["book", "found", "saying"]
def C_P_bars_of : Sc := ⟨1, N_P_bars_of, defScope (top 7), true, true⟩
instance : Calm C_P_bars_of := ⟨rfl⟩
theorem V_P_bars_of_0 : Var C_P_bars_of 0 "book" := var_of (by decide +kernel)
theorem V_P_bars_of_1 : Var C_P_bars_of 1 "found" := var_of (by decide +kernel)
theorem V_P_bars_of_2 : Var C_P_bars_of 2 "saying" := var_of (by decide +kernel)
theorem S_P_bars_of_1 : Loca C_P_bars_of 1 "found" := loc_of (by decide +kernel)
theorem S_P_bars_of_2 : Loca C_P_bars_of 2 "saying" := loc_of (by decide +kernel)
theorem b_P_bars_of {G : Cfg} (A : All G) (O : Own) (a_book : BookV) (hpre : BkOk a_book) : SS G C_P_bars_of (defBody (top 7)) (frame0 N_P_bars_of [(dBook G) a_book]) O (fnN (fun r => oDt dB r) O) (.rt (m_P_bars_of a_book)) := by
  unfold m_P_bars_of
  have hz2 : (m_P_Book_sayings a_book).length ≤ 60 := hpre.ly
  have hn0 : ([] : List ((Str × Str) × Bool)).length = 0 := rfl
  refine ss_new (od := oDt dB ([] : (List ((Str × Str) × Bool)))) S_P_bars_of_1 (fun _ => rfl) en_dit0 ?_
  intro p_found_1
  refine ss_fr70 (Γ1 := [some ((dBook G) a_book), some (dP p_found_1), none]) (by exact ⟨.inr rfl, .inr rfl, .inl rfl, trivial⟩) ?_
  refine ss_fold (Γ := [some ((dBook G) a_book), some (dP p_found_1), none]) (df := (dSy G.K)) (s0 := ([] : (List ((Str × Str) × Bool)))) .rt (fun s_3 : (List ((Str × Str) × Bool)) => [some ((dBook G) a_book), some (dP p_found_1), none]) (fun (s_3 : (List ((Str × Str) × Bool))) (x_4 : Sy) => ([some ((dBook G) a_book), some (dP p_found_1), none]).set 2 (some ((dSy G.K) x_4))) (fun s_3 : (List ((Str × Str) × Bool)) => ((p_found_1, oDt dB s_3) :: O)) (ei_list (en_lst (en_meth0 (k_P_Book_sayings A) (by decide) (e_var V_P_bars_of_0 rfl) (by decide +kernel) ⟨a_book, True.intro, rfl, rfl⟩ (fun _ => ⟨_, rfl⟩)))) (by exact ⟨.inr rfl, .inr rfl, .inl rfl, trivial⟩) rfl (fun _ => trivial) (fun s_3 x_4 => (tj_name S_P_bars_of_2)) ?_ ?_ (fun _ _ => rfl)
  ·
    intro s_3 x_4 pre_5 post_6 hs_7 hf_8
    have hm_9 : x_4 ∈ (m_P_Book_sayings a_book) := by rw [hs_7]; simp
    have hpl_10 : pre_5.length < ((m_P_Book_sayings a_book)).length := by rw [hs_7, List.length_append, List.length_cons]; omega
    have hgrow_11 : (s_3).length ≤ (([] : (List ((Str × Str) × Bool)))).length + 1 * pre_5.length := by
      rw [hf_8]
      refine foldl_meas (m := fun s_3 : (List ((Str × Str) × Bool)) => (s_3).length) ?_ (s0 := ([] : (List ((Str × Str) × Bool))))
      intro _ _
      first | exact app_le | exact putIf_len | (simp only [lt]; exact dPut_len) | (simp only [lt]; split <;> first | exact dPut_len | omega) | ((try simp only [lt]); (repeat' split) <;> first | exact dPut_len | exact Nat.le_succ _) | (simp only [lt, slen_app, signAt_len, List.length_append, List.length_cons, List.length_nil]; omega) | ((try simp only [lt]); (repeat' split) <;> ((try simp only [lt, slen_app, signAt_len, List.length_append, List.length_cons, List.length_nil]); omega))
    refine ss_if .nx (t_cmp c_eqS (e_sy0 (e_var V_P_bars_of_2 rfl)) e_str rfl) (fun hc_12 => ?_) (fun hc_12 => ?_)
    ·
      refine ss_putT (f := dB) (kvs := s_3) (y := true) (n := 0) .nx rfl (e_var V_P_bars_of_1 rfl) (e_keyT (e_sy1 (e_var V_P_bars_of_2 rfl)) (e_sy2b hc_12 (e_var V_P_bars_of_2 rfl)) (fun _ => rfl) (fun _ => rfl)) e_bool (by trivial) (fun _ => rfl) ?_
      intro found_13 hfound_13
      exact ss_end (hold_end (by exact ⟨.inr rfl, .inr rfl, .inl rfl, trivial⟩))
    ·
      exact ss_end (hold_end (by exact ⟨.inr rfl, .inr rfl, .inl rfl, trivial⟩))
  intro s_3 he_L0
  have hgrow_16 : (s_3).length ≤ (([] : (List ((Str × Str) × Bool)))).length + 1 * ((m_P_Book_sayings a_book)).length := by
    rw [he_L0]
    refine foldl_meas (m := fun s_3 : (List ((Str × Str) × Bool)) => (s_3).length) ?_ (s0 := ([] : (List ((Str × Str) × Bool))))
    intro _ _
    first | exact app_le | exact putIf_len | (simp only [lt]; exact dPut_len) | (simp only [lt]; split <;> first | exact dPut_len | omega) | ((try simp only [lt]); (repeat' split) <;> first | exact dPut_len | exact Nat.le_succ _) | (simp only [lt, slen_app, signAt_len, List.length_append, List.length_cons, List.length_nil]; omega) | ((try simp only [lt]); (repeat' split) <;> ((try simp only [lt, slen_app, signAt_len, List.length_append, List.length_cons, List.length_nil]); omega))
  exact ss_retO V_P_bars_of_1 rfl (fun _ _ _ h => h)
theorem k_P_bars_of {G : Cfg} (A : All G) : Callee G 2 "bars_of" (sp_P_bars_of G) := by
  refine A.d_P_bars_of.callee (N := N_P_bars_of) (ps := ["book"]) (scope_of rfl rfl rfl (by decide +kernel)) (fun ds O rk h => ?_) (fun _ _ _ _ _ _ us hl => match us, hl with | [_], _ => rfl) (fun ds O rk h => ?_)
  · obtain ⟨a_book, hp, rfl, rfl⟩ := h; rfl
  · obtain ⟨a_book, hp, rfl, rfl⟩ := h; exact ⟨_, _, _, _, b_P_bars_of A O a_book hp, rfl⟩
def N_P_Book_tellings : List Str := ["self", "found", "k", "talk"]
def C_P_Book_tellings : Sc := ⟨0, N_P_Book_tellings, defScope (inClass (top 44) 9), true, true⟩
instance : Calm C_P_Book_tellings := ⟨rfl⟩
theorem V_P_Book_tellings_0 : Var C_P_Book_tellings 0 "self" := var_of (by decide +kernel)
theorem V_P_Book_tellings_1 : Var C_P_Book_tellings 1 "found" := var_of (by decide +kernel)
theorem V_P_Book_tellings_2 : Var C_P_Book_tellings 2 "k" := var_of (by decide +kernel)
theorem V_P_Book_tellings_3 : Var C_P_Book_tellings 3 "talk" := var_of (by decide +kernel)
theorem S_P_Book_tellings_1 : Loca C_P_Book_tellings 1 "found" := loc_of (by decide +kernel)
theorem S_P_Book_tellings_2 : Loca C_P_Book_tellings 2 "k" := loc_of (by decide +kernel)
theorem S_P_Book_tellings_3 : Loca C_P_Book_tellings 3 "talk" := loc_of (by decide +kernel)
theorem G_P_Book_tellings_enumerate : Glo C_P_Book_tellings "enumerate" := glo_of (by decide +kernel)
theorem b_P_Book_tellings {G : Cfg} (A : All G) (O : Own) (a_self : BookV) (hpre : BkOk a_self) : SS G C_P_Book_tellings (defBody (inClass (top 44) 9)) (frame0 N_P_Book_tellings [(dBook G) a_self]) O (fnN (fun r => oLst (List.map (dT3 G.K dI dS dS) r)) O) (.rt (m_P_Book_tellings a_self)) := by
  unfold m_P_Book_tellings
  have hz1 : a_self.meetings.length ≤ 120 := hpre.lm
  have hn0 : ([] : List (Int × Str × Str)).length = 0 := rfl
  refine ss_new (od := oLst (([] : List (Int × Str × Str)).map (dT3 G.K dI dS dS))) S_P_Book_tellings_1 (fun _ => rfl) (en_list (ds := []) a_nil (Nat.le_of_ble_eq_true rfl)) ?_
  intro p_found_1
  refine ss_fr70 (Γ1 := [some ((dBook G) a_self), some (dP p_found_1), none, none]) (by exact ⟨.inr rfl, .inr rfl, .inl rfl, .inl rfl, trivial⟩) ?_
  refine ss_fold (Γ := [some ((dBook G) a_self), some (dP p_found_1), none, none]) (df := (dT2 G.K dI (dT4 G.K dI dS dS dS))) (s0 := ([] : List (Int × Str × Str))) .rt (fun s_3 : (List (Int × Str × Str)) => [some ((dBook G) a_self), some (dP p_found_1), none, none]) (fun (s_3 : (List (Int × Str × Str))) (x_4 : (Int × (Int × Str × Str × Str))) => (([some ((dBook G) a_self), some (dP p_found_1), none, none]).set 2 (some (dI x_4.1))).set 3 (some ((dT4 G.K dI dS dS dS) x_4.2))) (fun s_3 : (List (Int × Str × Str)) => ((p_found_1, oLst (s_3.map (dT3 G.K dI dS dS))) :: O)) (ei_enum (f := (dT4 G.K dI dS dS dS)) (xs := a_self.meetings) G_P_Book_tellings_enumerate A.b_enumerate (e_fld (i := 2) (e_var V_P_Book_tellings_0 rfl) (by decide +kernel) rfl rfl A.a_Book_meetings (fun _ => rfl)) (fun _ => rfl)) (by exact ⟨.inr rfl, .inr rfl, .inl rfl, .inl rfl, trivial⟩) rfl (fun _ => trivial) (fun s_3 x_4 => (tj_tup (tjs_cons (tj_name S_P_Book_tellings_2) (tjs_cons (tj_name S_P_Book_tellings_3) tjs_nil (fun _ => rfl)) (fun _ => rfl)) (fun _ => rfl) (fun _ => rfl))) ?_ ?_ (fun _ _ => rfl)
  ·
    intro s_3 x_4 pre_5 post_6 hs_7 hf_8
    have hm_9 : x_4 ∈ (enumL a_self.meetings) := by rw [hs_7]; simp
    have := mem_enum hm_9
    have hpl_10 : pre_5.length < ((enumL a_self.meetings)).length := by rw [hs_7, List.length_append, List.length_cons]; omega
    rw [enumL_len] at hpl_10
    have hgrow_11 : (s_3).length ≤ (([] : List (Int × Str × Str))).length + 2 * pre_5.length := by
      rw [hf_8]
      refine foldl_meas (m := fun s_3 : (List (Int × Str × Str)) => (s_3).length) ?_ (s0 := ([] : List (Int × Str × Str)))
      intro _ _
      first | exact app_le | exact putIf_len | (simp only [lt]; exact dPut_len) | (simp only [lt]; split <;> first | exact dPut_len | omega) | ((try simp only [lt]); (repeat' split) <;> first | exact dPut_len | exact Nat.le_succ _) | (simp only [lt, slen_app, signAt_len, List.length_append, List.length_cons, List.length_nil]; omega) | ((try simp only [lt]); (repeat' split) <;> ((try simp only [lt, slen_app, signAt_len, List.length_append, List.length_cons, List.length_nil]); omega))
    refine ss_app (f := (dT3 G.K dI dS dS)) (xs := s_3) (y := (x_4.1, x_4.2.2.1, x_4.2.2.2.1)) (n := 0) .nx rfl (e_var V_P_Book_tellings_1 rfl) (e_tup (a_cons (e_var V_P_Book_tellings_2 rfl) (a_cons (e_ixT (i := (1 : Int)) rfl (e_var V_P_Book_tellings_3 rfl) e_int (fun _ _ => rfl)) (a_cons (e_ixT (i := (2 : Int)) rfl (e_var V_P_Book_tellings_3 rfl) e_int (fun _ _ => rfl)) a_nil (fun _ => rfl)) (fun _ => rfl)) (fun _ => rfl)) (Nat.le_of_ble_eq_true rfl)) (by trivial) (fun _ => rfl) rfl (fun _ => rfl) ?_
    intro found_12 hfound_12
    have hfound_12_l : found_12.length = (s_3).length + 1 := by rw [hfound_12, List.length_append]; rfl
    refine ss_if .nx (t_cmp c_eqS (e_ixT (i := (3 : Int)) rfl (e_var V_P_Book_tellings_3 rfl) e_int (fun _ _ => rfl)) e_str rfl) (fun hc_13 => ?_) (fun hc_13 => ?_)
    ·
      refine ss_app (f := (dT3 G.K dI dS dS)) (xs := found_12) (y := (x_4.1, x_4.2.2.2.1, x_4.2.2.1)) (n := 0) .nx rfl (e_var V_P_Book_tellings_1 rfl) (e_tup (a_cons (e_var V_P_Book_tellings_2 rfl) (a_cons (e_ixT (i := (2 : Int)) rfl (e_var V_P_Book_tellings_3 rfl) e_int (fun _ _ => rfl)) (a_cons (e_ixT (i := (1 : Int)) rfl (e_var V_P_Book_tellings_3 rfl) e_int (fun _ _ => rfl)) a_nil (fun _ => rfl)) (fun _ => rfl)) (fun _ => rfl)) (Nat.le_of_ble_eq_true rfl)) (by trivial) (fun _ => rfl) rfl (fun _ => rfl) ?_
      intro found_14 hfound_14
      have hfound_14_l : found_14.length = (found_12).length + 1 := by rw [hfound_14, List.length_append]; rfl
      exact ss_end (hold_end (by exact ⟨.inr rfl, .inr rfl, .inl rfl, .inl rfl, trivial⟩))
    ·
      exact ss_end (hold_end (by exact ⟨.inr rfl, .inr rfl, .inl rfl, .inl rfl, trivial⟩))
  intro s_3 he_L0
  have hgrow_17 : (s_3).length ≤ (([] : List (Int × Str × Str))).length + 2 * ((enumL a_self.meetings)).length := by
    rw [he_L0]
    refine foldl_meas (m := fun s_3 : (List (Int × Str × Str)) => (s_3).length) ?_ (s0 := ([] : List (Int × Str × Str)))
    intro _ _
    first | exact app_le | exact putIf_len | (simp only [lt]; exact dPut_len) | (simp only [lt]; split <;> first | exact dPut_len | omega) | ((try simp only [lt]); (repeat' split) <;> first | exact dPut_len | exact Nat.le_succ _) | (simp only [lt, slen_app, signAt_len, List.length_append, List.length_cons, List.length_nil]; omega) | ((try simp only [lt]); (repeat' split) <;> ((try simp only [lt, slen_app, signAt_len, List.length_append, List.length_cons, List.length_nil]); omega))
  rw [enumL_len] at hgrow_17
  exact ss_retO V_P_Book_tellings_1 rfl (fun _ _ _ h => h)
theorem k_P_Book_tellings {G : Cfg} (A : All G) : CalM G 1 "Book" "tellings" (sp_P_Book_tellings G) := by
  refine A.d_P_Book_tellings.callee (N := N_P_Book_tellings) (ps := ["self"]) (scope_of rfl rfl rfl (by decide +kernel)) (fun ds O rk h => ?_) (fun _ _ _ _ _ _ us hl => match us, hl with | [_], _ => rfl) (fun ds O rk h => ?_)
  · obtain ⟨a_self, hp, rfl, rfl⟩ := h; rfl
  · obtain ⟨a_self, hp, rfl, rfl⟩ := h; exact ⟨_, _, _, _, b_P_Book_tellings A O a_self hp, rfl⟩
def N_P_is_above : List Str := ["hour", "floor"]
def C_P_is_above : Sc := ⟨0, N_P_is_above, defScope (top 4), true, true⟩
instance : Calm C_P_is_above := ⟨rfl⟩
theorem V_P_is_above_0 : Var C_P_is_above 0 "hour" := var_of (by decide +kernel)
theorem V_P_is_above_1 : Var C_P_is_above 1 "floor" := var_of (by decide +kernel)
theorem b_P_is_above {G : Cfg} (A : All G) (O : Own) (a_hour : Int) (a_floor : (Option Int)) : SS G C_P_is_above (defBody (top 4)) (frame0 N_P_is_above [dI a_hour, (dO dI) a_floor]) O (fnV dB O) (.rt (m_P_is_above a_hour a_floor)) := by
  unfold m_P_is_above
  exact ss_ret (e_and (e_cmp (c_notO (f := dI) (o := a_floor) notN_I) (e_var V_P_is_above_1 rfl) e_none rfl) (fun hb_1 => (e_bool1 (e_cmp c_gt (e_var V_P_is_above_0 rfl) (e_eq (e_var V_P_is_above_1 rfl) (o_some (notT hb_1))) rfl)))) (fun _ _ _ h => h)
theorem k_P_is_above {G : Cfg} (A : All G) : Callee G 1 "is_above" (sp_P_is_above G) := by
  refine A.d_P_is_above.callee (N := N_P_is_above) (ps := ["hour", "floor"]) (scope_of rfl rfl rfl (by decide +kernel)) (fun ds O rk h => ?_) (fun _ _ _ _ _ _ us hl => match us, hl with | [_, _], _ => rfl) (fun ds O rk h => ?_)
  · obtain ⟨a_hour, a_floor, hp, rfl, rfl⟩ := h; rfl
  · obtain ⟨a_hour, a_floor, hp, rfl, rfl⟩ := h; exact ⟨_, _, _, _, b_P_is_above A O a_hour a_floor, rfl⟩
def N_P_is_within : List Str := ["hour", "spans", "begin", "end"]
def C_P_is_within : Sc := ⟨0, N_P_is_within, defScope (top 8), true, true⟩
instance : Calm C_P_is_within := ⟨rfl⟩
theorem V_P_is_within_0 : Var C_P_is_within 0 "hour" := var_of (by decide +kernel)
theorem V_P_is_within_1 : Var C_P_is_within 1 "spans" := var_of (by decide +kernel)
theorem V_P_is_within_2 : Var C_P_is_within 2 "begin" := var_of (by decide +kernel)
theorem V_P_is_within_3 : Var C_P_is_within 3 "end" := var_of (by decide +kernel)
theorem S_P_is_within_2 : Loca C_P_is_within 2 "begin" := loc_of (by decide +kernel)
theorem S_P_is_within_3 : Loca C_P_is_within 3 "end" := loc_of (by decide +kernel)
theorem b_P_is_within {G : Cfg} (A : All G) (O : Own) (a_hour : Int) (a_spans : (List (Int × Int))) : SS G C_P_is_within (defBody (top 8)) (frame0 N_P_is_within [dI a_hour, (dLo G.K (dT2 G.K dI dI)) a_spans]) O (fnV dB O) (.rt (m_P_is_within a_hour a_spans)) := by
  unfold m_P_is_within
  refine ss_fr70 (Γ1 := [some (dI a_hour), some ((dLo G.K (dT2 G.K dI dI)) a_spans), none, none]) (by exact ⟨.inr rfl, .inr rfl, .inl rfl, .inl rfl, trivial⟩) ?_
  refine ss_loop (Γ := [some (dI a_hour), some ((dLo G.K (dT2 G.K dI dI)) a_spans), none, none]) (df := (dT2 G.K dI dI)) (s0 := ()) (fun s_1 : Unit => [some (dI a_hour), some ((dLo G.K (dT2 G.K dI dI)) a_spans), none, none]) (fun (s_1 : Unit) (x_2 : (Int × Int)) => (([some (dI a_hour), some ((dLo G.K (dT2 G.K dI dI)) a_spans), none, none]).set 2 (some (dI x_2.1))).set 3 (some (dI x_2.2))) (fun s_1 : Unit => O) (ei_list (e_var V_P_is_within_1 rfl)) (by exact ⟨.inr rfl, .inr rfl, .inl rfl, .inl rfl, trivial⟩) rfl (fun _ => trivial) (fun s_1 x_2 => (tj_tup (tjs_cons (tj_name S_P_is_within_2) (tjs_cons (tj_name S_P_is_within_3) tjs_nil (fun _ => rfl)) (fun _ => rfl)) (fun _ => rfl) (fun _ => rfl))) ?_ ?_ (fun _ _ => rfl)
  ·
    intro s_1 x_2 pre_3 post_4 hs_5 hf_6
    have hm_7 : x_2 ∈ a_spans := by rw [hs_5]; simp
    have hpl_8 : pre_3.length < (a_spans).length := by rw [hs_5, List.length_append, List.length_cons]; omega
    refine ss_if Ret.out (t_chain c_le (fun _ => c_le) (e_var V_P_is_within_2 rfl) (e_var V_P_is_within_0 rfl) (fun _ => (e_var V_P_is_within_3 rfl)) (fun X _ _ _ _ _ h1 h2 h3 h4 h5 => pt_chain h1 h2 h3 h4 h5 (by with_unfolding_all rfl))) (fun hc_9 => ?_) (fun hc_9 => ?_)
    ·
      exact ss_ret e_bool (fun _ _ _ h => h)
    ·
      exact ss_end (hold_end (by exact ⟨.inr rfl, .inr rfl, .inl rfl, .inl rfl, trivial⟩))
  intro s_1 he_L0
  exact ss_ret e_bool (fun _ _ _ h => h)
theorem k_P_is_within {G : Cfg} (A : All G) : Callee G 1 "is_within" (sp_P_is_within G) := by
  refine A.d_P_is_within.callee (N := N_P_is_within) (ps := ["hour", "spans"]) (scope_of rfl rfl rfl (by decide +kernel)) (fun ds O rk h => ?_) (fun _ _ _ _ _ _ us hl => match us, hl with | [_, _], _ => rfl) (fun ds O rk h => ?_)
  · obtain ⟨a_hour, a_spans, hp, rfl, rfl⟩ := h; rfl
  · obtain ⟨a_hour, a_spans, hp, rfl, rfl⟩ := h; exact ⟨_, _, _, _, b_P_is_within A O a_hour a_spans, rfl⟩
def N_P_open_tellings : List Str := ["book", "known", "quiet", "barred", "talks", "found", "k", "teller", "hearer", "hour"]
def C_P_open_tellings : Sc := ⟨2, N_P_open_tellings, defScope (top 9), true, true⟩
instance : Calm C_P_open_tellings := ⟨rfl⟩
theorem V_P_open_tellings_0 : Var C_P_open_tellings 0 "book" := var_of (by decide +kernel)
theorem V_P_open_tellings_1 : Var C_P_open_tellings 1 "known" := var_of (by decide +kernel)
theorem V_P_open_tellings_2 : Var C_P_open_tellings 2 "quiet" := var_of (by decide +kernel)
theorem V_P_open_tellings_3 : Var C_P_open_tellings 3 "barred" := var_of (by decide +kernel)
theorem V_P_open_tellings_4 : Var C_P_open_tellings 4 "talks" := var_of (by decide +kernel)
theorem V_P_open_tellings_5 : Var C_P_open_tellings 5 "found" := var_of (by decide +kernel)
theorem V_P_open_tellings_6 : Var C_P_open_tellings 6 "k" := var_of (by decide +kernel)
theorem V_P_open_tellings_7 : Var C_P_open_tellings 7 "teller" := var_of (by decide +kernel)
theorem V_P_open_tellings_8 : Var C_P_open_tellings 8 "hearer" := var_of (by decide +kernel)
theorem V_P_open_tellings_9 : Var C_P_open_tellings 9 "hour" := var_of (by decide +kernel)
theorem S_P_open_tellings_1 : Loca C_P_open_tellings 1 "known" := loc_of (by decide +kernel)
theorem S_P_open_tellings_2 : Loca C_P_open_tellings 2 "quiet" := loc_of (by decide +kernel)
theorem S_P_open_tellings_3 : Loca C_P_open_tellings 3 "barred" := loc_of (by decide +kernel)
theorem S_P_open_tellings_4 : Loca C_P_open_tellings 4 "talks" := loc_of (by decide +kernel)
theorem S_P_open_tellings_5 : Loca C_P_open_tellings 5 "found" := loc_of (by decide +kernel)
theorem S_P_open_tellings_6 : Loca C_P_open_tellings 6 "k" := loc_of (by decide +kernel)
theorem S_P_open_tellings_7 : Loca C_P_open_tellings 7 "teller" := loc_of (by decide +kernel)
theorem S_P_open_tellings_8 : Loca C_P_open_tellings 8 "hearer" := loc_of (by decide +kernel)
theorem S_P_open_tellings_9 : Loca C_P_open_tellings 9 "hour" := loc_of (by decide +kernel)
theorem G_P_open_tellings_bars_of : Glo C_P_open_tellings "bars_of" := glo_of (by decide +kernel)
theorem G_P_open_tellings_floors : Glo C_P_open_tellings "floors" := glo_of (by decide +kernel)
theorem G_P_open_tellings_is_above : Glo C_P_open_tellings "is_above" := glo_of (by decide +kernel)
theorem G_P_open_tellings_is_within : Glo C_P_open_tellings "is_within" := glo_of (by decide +kernel)
theorem G_P_open_tellings_spans_of : Glo C_P_open_tellings "spans_of" := glo_of (by decide +kernel)
theorem b_P_open_tellings {G : Cfg} (A : All G) (O : Own) (a_book : BookV) (hpre : BkOk a_book) : SS G C_P_open_tellings (defBody (top 9)) (frame0 N_P_open_tellings [(dBook G) a_book]) O (fnN (fun r => oLst (List.map (dT3 G.K dI dS dS) r)) O) (.rt (m_P_open_tellings a_book)) := by
  unfold m_P_open_tellings
  have hz1 : (m_P_Book_tellings a_book).length ≤ 240 := tellings_len hpre
  have hn0 : ([] : List (Int × Str × Str)).length = 0 := rfl
  refine ss_asg (f := (dDc kS (dO dI))) .rt S_P_open_tellings_1 (fun _ => rfl) (en_dic (en_call (k_P_floors A) (by decide) G_P_open_tellings_floors ⟨a_book, (by trivial), rfl, rfl⟩ (a_cons (e_var V_P_open_tellings_0 rfl) a_nil (fun _ => rfl)) (fun _ => rfl))) ?_
  intro known_1 hknown_1
  have hkn : ∀ x ∈ m_P_Book_tellings a_book, dHas known_1 x.2.2 = true := fun x hx => by rw [hknown_1]; exact floors_mem (tel_mem hpre x hx).2.2
  refine ss_fr70 (Γ1 := [some ((dBook G) a_book), some ((dDc kS (dO dI)) known_1), none, none, none, none, none, none, none, none]) (by exact ⟨.inr rfl, .inr rfl, .inl rfl, .inl rfl, .inl rfl, .inl rfl, .inl rfl, .inl rfl, .inl rfl, .inl rfl, trivial⟩) ?_
  refine ss_asg (f := (dDc kS (dLo G.K (dT2 G.K dI dI)))) .rt S_P_open_tellings_2 (fun _ => rfl) (e_call (k_P_spans_of A) (by decide) G_P_open_tellings_spans_of ⟨a_book, (by trivial), rfl, rfl⟩ (a_cons (e_var V_P_open_tellings_0 rfl) a_nil (fun _ => rfl)) (fun _ => rfl)) ?_
  intro quiet_2 hquiet_2
  refine ss_asg (f := (dDt dB)) .rt S_P_open_tellings_3 (fun _ => rfl) (en_dit (en_call (k_P_bars_of A) (by decide) G_P_open_tellings_bars_of ⟨a_book, (by trivial), rfl, rfl⟩ (a_cons (e_var V_P_open_tellings_0 rfl) a_nil (fun _ => rfl)) (fun _ => rfl))) ?_
  intro barred_3 hbarred_3
  refine ss_fr70 (Γ1 := [some ((dBook G) a_book), some ((dDc kS (dO dI)) known_1), some ((dDc kS (dLo G.K (dT2 G.K dI dI))) quiet_2), some ((dDt dB) barred_3), none, none, none, none, none, none]) (by exact ⟨.inr rfl, .inr rfl, .inr rfl, .inr rfl, .inl rfl, .inl rfl, .inl rfl, .inl rfl, .inl rfl, .inl rfl, trivial⟩) ?_
  refine ss_asg (f := (dLo G.K (dT4 G.K dI dS dS dS))) .rt S_P_open_tellings_4 (fun _ => rfl) (en_lst (en_meth0 (k_P_Book_talks A) (by decide) (e_var V_P_open_tellings_0 rfl) (by decide +kernel) ⟨a_book, True.intro, rfl, rfl⟩ (fun _ => ⟨_, rfl⟩))) ?_
  intro talks_4 htalks_4
  have hti : ∀ x ∈ m_P_Book_tellings a_book, inR talks_4.length x.1 := fun x hx => by rw [htalks_4]; exact (tel_mem hpre x hx).1
  refine ss_new (od := oLst (([] : List (Int × Str × Str)).map (dT3 G.K dI dS dS))) S_P_open_tellings_5 (fun _ => rfl) (en_list (ds := []) a_nil (Nat.le_of_ble_eq_true rfl)) ?_
  intro p_found_5
  refine ss_fr70 (Γ1 := [some ((dBook G) a_book), some ((dDc kS (dO dI)) known_1), some ((dDc kS (dLo G.K (dT2 G.K dI dI))) quiet_2), some ((dDt dB) barred_3), some ((dLo G.K (dT4 G.K dI dS dS dS)) talks_4), some (dP p_found_5), none, none, none, none]) (by exact ⟨.inr rfl, .inr rfl, .inr rfl, .inr rfl, .inr rfl, .inr rfl, .inl rfl, .inl rfl, .inl rfl, .inl rfl, trivial⟩) ?_
  refine ss_fold (Γ := [some ((dBook G) a_book), some ((dDc kS (dO dI)) known_1), some ((dDc kS (dLo G.K (dT2 G.K dI dI))) quiet_2), some ((dDt dB) barred_3), some ((dLo G.K (dT4 G.K dI dS dS dS)) talks_4), some (dP p_found_5), none, none, none, none]) (df := (dT3 G.K dI dS dS)) (s0 := ([] : List (Int × Str × Str))) .rt (fun s_7 : (List (Int × Str × Str)) => [some ((dBook G) a_book), some ((dDc kS (dO dI)) known_1), some ((dDc kS (dLo G.K (dT2 G.K dI dI))) quiet_2), some ((dDt dB) barred_3), some ((dLo G.K (dT4 G.K dI dS dS dS)) talks_4), some (dP p_found_5), none, none, none, none]) (fun (s_7 : (List (Int × Str × Str))) (x_8 : (Int × Str × Str)) => ((([some ((dBook G) a_book), some ((dDc kS (dO dI)) known_1), some ((dDc kS (dLo G.K (dT2 G.K dI dI))) quiet_2), some ((dDt dB) barred_3), some ((dLo G.K (dT4 G.K dI dS dS dS)) talks_4), some (dP p_found_5), none, none, none, none]).set 6 (some (dI x_8.1))).set 7 (some (dS x_8.2.1))).set 8 (some (dS x_8.2.2))) (fun s_7 : (List (Int × Str × Str)) => ((p_found_5, oLst (s_7.map (dT3 G.K dI dS dS))) :: O)) (ei_list (en_lst (en_meth0 (k_P_Book_tellings A) (by decide) (e_var V_P_open_tellings_0 rfl) (by decide +kernel) ⟨a_book, (by trivial), rfl, rfl⟩ (fun _ => ⟨_, rfl⟩)))) (by exact ⟨.inr rfl, .inr rfl, .inr rfl, .inr rfl, .inr rfl, .inr rfl, .inl rfl, .inl rfl, .inl rfl, .inl rfl, trivial⟩) rfl (fun _ => trivial) (fun s_7 x_8 => (tj_tup (tjs_cons (tj_name S_P_open_tellings_6) (tjs_cons (tj_name S_P_open_tellings_7) (tjs_cons (tj_name S_P_open_tellings_8) tjs_nil (fun _ => rfl)) (fun _ => rfl)) (fun _ => rfl)) (fun _ => rfl) (fun _ => rfl))) ?_ ?_ (fun _ _ => rfl)
  ·
    intro s_7 x_8 pre_9 post_10 hs_11 hf_12
    have hm_13 : x_8 ∈ (m_P_Book_tellings a_book) := by rw [hs_11]; simp
    have hpl_14 : pre_9.length < ((m_P_Book_tellings a_book)).length := by rw [hs_11, List.length_append, List.length_cons]; omega
    have hgrow_15 : (s_7).length ≤ (([] : List (Int × Str × Str))).length + 1 * pre_9.length := by
      rw [hf_12]
      refine foldl_meas (m := fun s_7 : (List (Int × Str × Str)) => (s_7).length) ?_ (s0 := ([] : List (Int × Str × Str)))
      intro _ _
      first | exact app_le | exact putIf_len | (simp only [lt]; exact dPut_len) | (simp only [lt]; split <;> first | exact dPut_len | omega) | ((try simp only [lt]); (repeat' split) <;> first | exact dPut_len | exact Nat.le_succ _) | (simp only [lt, slen_app, signAt_len, List.length_append, List.length_cons, List.length_nil]; omega) | ((try simp only [lt]); (repeat' split) <;> ((try simp only [lt, slen_app, signAt_len, List.length_append, List.length_cons, List.length_nil]); omega))
    refine ss_asg (f := dI) .nx S_P_open_tellings_9 (fun _ => rfl) (e_ixT (i := (0 : Int)) rfl (e_nthL (f := (dT4 G.K dI dS dS dS)) (xs := talks_4) (e_var V_P_open_tellings_4 rfl) (e_var V_P_open_tellings_6 rfl) (by trivial) (fun _ _ => rfl)) e_int (fun _ _ => rfl)) ?_
    intro hour_16 hhour_16
    refine ss_if .nx (t_w (w_and (t_val (e_call (k_P_is_above A) (by decide) G_P_open_tellings_is_above ⟨hour_16, (dGet known_1 x_8.2.2), True.intro, rfl, rfl⟩ (a_cons (e_var V_P_open_tellings_9 rfl) (a_cons (e_getF (f := (dO dI)) (kvs := known_1) (fun _ _ => kS_inj) (e_var V_P_open_tellings_1 rfl) isK_S (e_var V_P_open_tellings_8 rfl) (by trivial) (fun _ _ => rfl)) a_nil (fun _ => rfl)) (fun _ => rfl)) (fun _ => rfl)) (fun _ _ => rfl)) (fun hb_17 => (w_and1 (t_ninT (kvs := barred_3) (e_keyT (e_var V_P_open_tellings_8 rfl) (e_var V_P_open_tellings_7 rfl) (fun _ => rfl) (fun _ => rfl)) (e_var V_P_open_tellings_3 rfl) rfl))))) (fun hc_19 => ?_) (fun hc_19 => ?_)
    ·
      refine ss_if .nx (t_not (t_val (e_call (k_P_is_within A) (by decide) G_P_open_tellings_is_within ⟨hour_16, ((dFind quiet_2 x_8.2.1).getD ([] : List (Int × Int))), True.intro, rfl, rfl⟩ (a_cons (e_var V_P_open_tellings_9 rfl) (a_cons (e_get2F (f := (dLo G.K (dT2 G.K dI dI))) (kvs := quiet_2) (y := ([] : List (Int × Int))) (fun _ _ => kS_inj) (e_var V_P_open_tellings_2 rfl) isK_S (e_var V_P_open_tellings_7 rfl) (en_lst (en_list (ds := []) a_nil (Nat.le_of_ble_eq_true rfl))) (fun _ => ⟨rfl, rfl, rfl, rfl⟩)) a_nil (fun _ => rfl)) (fun _ => rfl)) (fun _ => rfl)) (fun _ _ => rfl))) (fun hc_20 => ?_) (fun hc_20 => ?_)
      ·
        refine ss_app (f := (dT3 G.K dI dS dS)) (xs := s_7) (y := (x_8.1, x_8.2.1, x_8.2.2)) (n := 0) .nx rfl (e_var V_P_open_tellings_5 rfl) (e_tup (a_cons (e_var V_P_open_tellings_6 rfl) (a_cons (e_var V_P_open_tellings_7 rfl) (a_cons (e_var V_P_open_tellings_8 rfl) a_nil (fun _ => rfl)) (fun _ => rfl)) (fun _ => rfl)) (Nat.le_of_ble_eq_true rfl)) (by trivial) (fun _ => rfl) rfl (fun _ => rfl) ?_
        intro found_21 hfound_21
        have hfound_21_l : found_21.length = (s_7).length + 1 := by rw [hfound_21, List.length_append]; rfl
        exact ss_end (hold_end (by exact ⟨.inr rfl, .inr rfl, .inr rfl, .inr rfl, .inr rfl, .inr rfl, .inl rfl, .inl rfl, .inl rfl, .inl rfl, trivial⟩))
      ·
        exact ss_end (hold_end (by exact ⟨.inr rfl, .inr rfl, .inr rfl, .inr rfl, .inr rfl, .inr rfl, .inl rfl, .inl rfl, .inl rfl, .inl rfl, trivial⟩))
    ·
      exact ss_end (hold_end (by exact ⟨.inr rfl, .inr rfl, .inr rfl, .inr rfl, .inr rfl, .inr rfl, .inl rfl, .inl rfl, .inl rfl, .inl rfl, trivial⟩))
  intro s_7 he_L0
  have hgrow_24 : (s_7).length ≤ (([] : List (Int × Str × Str))).length + 1 * ((m_P_Book_tellings a_book)).length := by
    rw [he_L0]
    refine foldl_meas (m := fun s_7 : (List (Int × Str × Str)) => (s_7).length) ?_ (s0 := ([] : List (Int × Str × Str)))
    intro _ _
    first | exact app_le | exact putIf_len | (simp only [lt]; exact dPut_len) | (simp only [lt]; split <;> first | exact dPut_len | omega) | ((try simp only [lt]); (repeat' split) <;> first | exact dPut_len | exact Nat.le_succ _) | (simp only [lt, slen_app, signAt_len, List.length_append, List.length_cons, List.length_nil]; omega) | ((try simp only [lt]); (repeat' split) <;> ((try simp only [lt, slen_app, signAt_len, List.length_append, List.length_cons, List.length_nil]); omega))
  exact ss_retO V_P_open_tellings_5 rfl (fun _ _ _ h => h)
theorem k_P_open_tellings {G : Cfg} (A : All G) : Callee G 3 "open_tellings" (sp_P_open_tellings G) := by
  refine A.d_P_open_tellings.callee (N := N_P_open_tellings) (ps := ["book"]) (scope_of rfl rfl rfl (by decide +kernel)) (fun ds O rk h => ?_) (fun _ _ _ _ _ _ us hl => match us, hl with | [_], _ => rfl) (fun ds O rk h => ?_)
  · obtain ⟨a_book, hp, rfl, rfl⟩ := h; rfl
  · obtain ⟨a_book, hp, rfl, rfl⟩ := h; exact ⟨_, _, _, _, b_P_open_tellings A O a_book hp, rfl⟩
def N_P_timed_tellings : List Str := ["book", "talks", "found", "k", "teller", "hearer"]
def C_P_timed_tellings : Sc := ⟨3, N_P_timed_tellings, defScope (top 18), true, true⟩
instance : Calm C_P_timed_tellings := ⟨rfl⟩
theorem nd_P_timed_tellings : C_P_timed_tellings.N.Nodup := by decide +kernel
theorem V_P_timed_tellings_0 : Var C_P_timed_tellings 0 "book" := var_of (by decide +kernel)
theorem V_P_timed_tellings_2 : Var C_P_timed_tellings 2 "found" := var_of (by decide +kernel)
theorem S_P_timed_tellings_1 : Loca C_P_timed_tellings 1 "talks" := loc_of (by decide +kernel)
theorem S_P_timed_tellings_2 : Loca C_P_timed_tellings 2 "found" := loc_of (by decide +kernel)
theorem G_P_timed_tellings_open_tellings : Glo C_P_timed_tellings "open_tellings" := glo_of (by decide +kernel)
theorem G_P_timed_tellings_sorted : Glo C_P_timed_tellings "sorted" := glo_of (by decide +kernel)
theorem b_P_timed_tellings {G : Cfg} (A : All G) (O : Own) (a_book : BookV) (hpre : BkOk a_book) : SS G C_P_timed_tellings (defBody (top 18)) (frame0 N_P_timed_tellings [(dBook G) a_book]) O (fnV (dLo G.K (dT4 G.K dI dI dS dS)) O) (.rt (m_P_timed_tellings a_book)) := by
  unfold m_P_timed_tellings
  have hz1 : (m_P_open_tellings a_book).length ≤ 240 := opent_len hpre
  refine ss_asg (f := (dLo G.K (dT4 G.K dI dS dS dS))) .rt S_P_timed_tellings_1 (fun _ => rfl) (en_lst (en_meth0 (k_P_Book_talks A) (by decide) (e_var V_P_timed_tellings_0 rfl) (by decide +kernel) ⟨a_book, True.intro, rfl, rfl⟩ (fun _ => ⟨_, rfl⟩))) ?_
  intro talks_1 htalks_1
  have hti : ∀ x ∈ m_P_open_tellings a_book, inR talks_1.length x.1 := by rw [htalks_1]; exact opent_in hpre
  refine ss_fr70 (Γ1 := [some ((dBook G) a_book), some ((dLo G.K (dT4 G.K dI dS dS dS)) talks_1), none, none, none, none]) (by exact ⟨.inr rfl, .inr rfl, .inl rfl, .inl rfl, .inl rfl, .inl rfl, trivial⟩) ?_
  refine ss_asgLc (f := (dLo G.K (dT4 G.K dI dI dS dS))) .rt S_P_timed_tellings_2 (swL_of ⟨by decide +kernel, by decide +kernel, rfl, by decide +kernel⟩) (enl_lc (own := [("k", 3), ("teller", 4), ("hearer", 5)]) (df := (dT3 G.K dI dS dS)) (dg := (dT4 G.K dI dI dS dS)) (xs := (m_P_open_tellings a_book)) (g := fun e_2 => ((nth talks_1 e_2.1).1, e_2.1, e_2.2.1, e_2.2.2)) nd_P_timed_tellings (ei_list (en_lst (en_call (k_P_open_tellings A) (by decide) G_P_timed_tellings_open_tellings ⟨a_book, (by trivial), rfl, rfl⟩ (a_cons (e_var V_P_timed_tellings_0 rfl) a_nil (fun _ => rfl)) (fun _ => rfl)))) (fun _ _ => trivial) (blkOk_by (by decide +kernel)) (fun e_2 => (tj_tup (tjs_cons (tj_name (loc_of (i := 3) (by decide +kernel))) (tjs_cons (tj_name (loc_of (i := 4) (by decide +kernel))) (tjs_cons (tj_name (loc_of (i := 5) (by decide +kernel))) tjs_nil (fun _ => rfl)) (fun _ => rfl)) (fun _ => rfl)) (fun _ => rfl) (fun _ => rfl))) (by decide) (fun e_2 hm_3 _ _ => (e_tup (a_cons (e_ixT (i := (0 : Int)) rfl (e_nthL (f := (dT4 G.K dI dS dS dS)) (xs := talks_1) (e_var (var_of (i := 1) (by decide +kernel)) rfl) (e_var (var_of (i := 3) (by decide +kernel)) rfl) (by trivial) (fun _ _ => rfl)) e_int (fun _ _ => rfl)) (a_cons (e_var (var_of (i := 3) (by decide +kernel)) rfl) (a_cons (e_var (var_of (i := 4) (by decide +kernel)) rfl) (a_cons (e_var (var_of (i := 5) (by decide +kernel)) rfl) a_nil (fun _ => rfl)) (fun _ => rfl)) (fun _ => rfl)) (fun _ => rfl)) (Nat.le_of_ble_eq_true rfl))) (by trivial) (fun _ _ => rfl)) rfl ?_
  intro found_5 hfound_5
  have hfl : found_5.length ≤ 240 := by rw [hfound_5, List.length_map]; exact hz1
  have hfound_5_n : found_5.length ≤ ((m_P_open_tellings a_book)).length := by rw [hfound_5, List.length_map]; exact Nat.le_refl _
  have := @srt_len _ (fun x : (Int × Int × Str × Str) => PyData.tuple [PyData.int x.1, PyData.int x.2.1, PyData.str x.2.2.1, PyData.str x.2.2.2]) found_5
  exact ss_ret (en_lst (en_callB (k_sortL (dat_t4 dat_int dat_int dat_str dat_str) ⟨fun a b => by simp [PySem.W.alike, PySem.W.alikeAll, alike_wy], .inl fun a => ⟨_, _, rfl⟩⟩ (by decide) (by trivial)) G_P_timed_tellings_sorted A.b_sorted bt_sorted (a_cons (e_var V_P_timed_tellings_2 rfl) a_nil (fun _ => rfl)) (fun _ => rfl))) (fun _ _ _ h => h)
theorem k_P_timed_tellings {G : Cfg} (A : All G) : Callee G 4 "timed_tellings" (sp_P_timed_tellings G) := by
  refine A.d_P_timed_tellings.callee (N := N_P_timed_tellings) (ps := ["book"]) (scope_of rfl rfl rfl (by decide +kernel)) (fun ds O rk h => ?_) (fun _ _ _ _ _ _ us hl => match us, hl with | [_], _ => rfl) (fun ds O rk h => ?_)
  · obtain ⟨a_book, hp, rfl, rfl⟩ := h; rfl
  · obtain ⟨a_book, hp, rfl, rfl⟩ := h; exact ⟨_, _, _, _, b_P_timed_tellings A O a_book hp, rfl⟩
def N_P_as_told : List Str := ["habits", "person", "tale", "others", "word"]
def C_P_as_told : Sc := ⟨0, N_P_as_told, defScope (top 15), true, true⟩
instance : Calm C_P_as_told := ⟨rfl⟩
theorem nd_P_as_told : C_P_as_told.N.Nodup := by decide +kernel
theorem V_P_as_told_0 : Var C_P_as_told 0 "habits" := var_of (by decide +kernel)
theorem V_P_as_told_1 : Var C_P_as_told 1 "person" := var_of (by decide +kernel)
theorem V_P_as_told_2 : Var C_P_as_told 2 "tale" := var_of (by decide +kernel)
theorem S_P_as_told_3 : Loca C_P_as_told 3 "others" := loc_of (by decide +kernel)
theorem G_P_as_told_dict : Glo C_P_as_told "dict" := glo_of (by decide +kernel)
theorem G_P_as_told_tuple : Glo C_P_as_told "tuple" := glo_of (by decide +kernel)
theorem b_P_as_told {G : Cfg} (A : All G) (O : Own) (a_habits : (List (Str × (List (Str × Str))))) (a_person : Str) (a_tale : (List Str)) (hpre : a_tale.length ≤ 100) : SS G C_P_as_told (defBody (top 15)) (frame0 N_P_as_told [(dDc kS (dLo G.K (dT2 G.K dS dS))) a_habits, dS a_person, (dVt G.K dS) a_tale]) O (fnV (dVt G.K dS) O) (.rt (m_P_as_told a_habits a_person a_tale)) := by
  unfold m_P_as_told
  refine ss_fr70 (Γ1 := [some ((dDc kS (dLo G.K (dT2 G.K dS dS))) a_habits), some (dS a_person), some ((dVt G.K dS) a_tale), none, none]) (by exact ⟨.inr rfl, .inr rfl, .inr rfl, .inl rfl, .inl rfl, trivial⟩) ?_
  refine ss_asg (f := (dDc kS dS)) .rt S_P_as_told_3 (fun _ => rfl) (en_dic (en_callT (k_dictP (xs := ((dFind a_habits a_person).getD ([] : List (Str × Str)))) (f := dS)) G_P_as_told_dict A.b_dict bt_dict (a_cons (e_get2F (f := (dLo G.K (dT2 G.K dS dS))) (kvs := a_habits) (y := ([] : List (Str × Str))) (fun _ _ => kS_inj) (e_var V_P_as_told_0 rfl) isK_S (e_var V_P_as_told_1 rfl) (en_lst (en_list (ds := []) a_nil (Nat.le_of_ble_eq_true rfl))) (fun _ => ⟨rfl, rfl, rfl, rfl⟩)) a_nil (fun _ => rfl)) (fun _ => rfl))) ?_
  intro others_1 hothers_1
  exact ss_ret (e_callT k_tupL G_P_as_told_tuple A.b_tuple bt_tuple (a_cons (en_lst (en_lc (own := [("word", 4)]) (df := dS) (dg := dS) (xs := a_tale) (g := fun e_2 => ((dFind others_1 e_2).getD e_2)) nd_P_as_told (ei_tup (e_var V_P_as_told_2 rfl)) (fun _ _ => trivial) (blkOk_by (by decide +kernel)) (fun e_2 => (tj_name (loc_of (i := 4) (by decide +kernel)))) (by decide) (fun e_2 hm_3 _ _ => (e_get2F (f := dS) (kvs := others_1) (y := e_2) (fun _ _ => kS_inj) (e_var (var_of (i := 3) (by decide +kernel)) rfl) isK_S (e_var (var_of (i := 4) (by decide +kernel)) rfl) (e_var (var_of (i := 4) (by decide +kernel)) rfl) (fun _ => ⟨rfl, rfl, rfl, rfl⟩))) (by trivial) (fun _ _ => rfl))) a_nil (fun _ => rfl)) (fun _ => rfl)) (fun _ _ _ h => h)
theorem k_P_as_told {G : Cfg} (A : All G) : Callee G 1 "as_told" (sp_P_as_told G) := by
  refine A.d_P_as_told.callee (N := N_P_as_told) (ps := ["habits", "person", "tale"]) (scope_of rfl rfl rfl (by decide +kernel)) (fun ds O rk h => ?_) (fun _ _ _ _ _ _ us hl => match us, hl with | [_, _, _], _ => rfl) (fun ds O rk h => ?_)
  · obtain ⟨a_habits, a_person, a_tale, hp, rfl, rfl⟩ := h; rfl
  · obtain ⟨a_habits, a_person, a_tale, hp, rfl, rfl⟩ := h; exact ⟨_, _, _, _, b_P_as_told A O a_habits a_person a_tale hp, rfl⟩
def N_P_heard_by : List Str := ["known", "habits", "step", "hour", "k", "teller", "hearer", "found", "version", "first"]
def C_P_heard_by : Sc := ⟨1, N_P_heard_by, defScope (top 19), true, true⟩
instance : Calm C_P_heard_by := ⟨rfl⟩
theorem V_P_heard_by_0 : Var C_P_heard_by 0 "known" := var_of (by decide +kernel)
theorem V_P_heard_by_1 : Var C_P_heard_by 1 "habits" := var_of (by decide +kernel)
theorem V_P_heard_by_2 : Var C_P_heard_by 2 "step" := var_of (by decide +kernel)
theorem V_P_heard_by_3 : Var C_P_heard_by 3 "hour" := var_of (by decide +kernel)
theorem V_P_heard_by_5 : Var C_P_heard_by 5 "teller" := var_of (by decide +kernel)
theorem V_P_heard_by_7 : Var C_P_heard_by 7 "found" := var_of (by decide +kernel)
theorem V_P_heard_by_8 : Var C_P_heard_by 8 "version" := var_of (by decide +kernel)
theorem V_P_heard_by_9 : Var C_P_heard_by 9 "first" := var_of (by decide +kernel)
theorem S_P_heard_by_3 : Loca C_P_heard_by 3 "hour" := loc_of (by decide +kernel)
theorem S_P_heard_by_4 : Loca C_P_heard_by 4 "k" := loc_of (by decide +kernel)
theorem S_P_heard_by_5 : Loca C_P_heard_by 5 "teller" := loc_of (by decide +kernel)
theorem S_P_heard_by_6 : Loca C_P_heard_by 6 "hearer" := loc_of (by decide +kernel)
theorem S_P_heard_by_7 : Loca C_P_heard_by 7 "found" := loc_of (by decide +kernel)
theorem S_P_heard_by_8 : Loca C_P_heard_by 8 "version" := loc_of (by decide +kernel)
theorem S_P_heard_by_9 : Loca C_P_heard_by 9 "first" := loc_of (by decide +kernel)
theorem G_P_heard_by_as_told : Glo C_P_heard_by "as_told" := glo_of (by decide +kernel)
theorem b_P_heard_by {G : Cfg} (A : All G) (O : Own) (n_known : Nat) (p_known : Addr) (a_known : (List ((Str × (List Str)) × Int))) (a_habits : (List (Str × (List (Str × Str))))) (a_step : (Int × Int × Str × Str)) (hO_known : O[n_known]? = some (p_known, oDn G knST (dT2 G.K dS (dVt G.K dS)) dI p_known a_known)) (hpre : a_known.length ≤ 400 ∧ ∀ q ∈ a_known, q.1.2.length ≤ 100) : SS G C_P_heard_by (defBody (top 19)) (frame0 N_P_heard_by [dP p_known, (dDc kS (dLo G.K (dT2 G.K dS dS))) a_habits, (dT4 G.K dI dI dS dS) a_step]) O (fnV (dLo G.K (dT2 G.K (dVt G.K dS) (dVt G.K dS))) O) (.rt (m_P_heard_by a_known a_habits a_step)) := by
  unfold m_P_heard_by
  have hn0 : ([] : List (List Str × List Str)).length = 0 := rfl
  have hk4 := hpre.1
  refine ss_fr70 (Γ1 := [some (dP p_known), some ((dDc kS (dLo G.K (dT2 G.K dS dS))) a_habits), some ((dT4 G.K dI dI dS dS) a_step), none, none, none, none, none, none, none]) (by exact ⟨.inr rfl, .inr rfl, .inr rfl, .inl rfl, .inl rfl, .inl rfl, .inl rfl, .inl rfl, .inl rfl, .inl rfl, trivial⟩) ?_
  refine ss_unp (d := (dT4 G.K dI dI dS dS) a_step) (e_var V_P_heard_by_2 rfl) (tj_tup (tjs_cons (tj_name S_P_heard_by_3) (tjs_cons (tj_name S_P_heard_by_4) (tjs_cons (tj_name S_P_heard_by_5) (tjs_cons (tj_name S_P_heard_by_6) tjs_nil (fun _ => rfl)) (fun _ => rfl)) (fun _ => rfl)) (fun _ => rfl)) (fun _ => rfl) (fun _ => rfl)) (fun _ => rfl) (fun _ => rfl) (fun _ => rfl) ?_
  refine ss_new (od := oLst (([] : List ((List Str) × (List Str))).map (dT2 G.K (dVt G.K dS) (dVt G.K dS)))) S_P_heard_by_7 (fun _ => rfl) (en_list (ds := []) a_nil (Nat.le_of_ble_eq_true rfl)) ?_
  intro p_found_1
  refine ss_fr70 (Γ1 := [some (dP p_known), some ((dDc kS (dLo G.K (dT2 G.K dS dS))) a_habits), some ((dT4 G.K dI dI dS dS) a_step), some (dI a_step.1), some (dI a_step.2.1), some (dS a_step.2.2.1), some (dS a_step.2.2.2), some (dP p_found_1), none, none]) (by exact ⟨.inr rfl, .inr rfl, .inr rfl, .inr rfl, .inr rfl, .inr rfl, .inr rfl, .inr rfl, .inl rfl, .inl rfl, trivial⟩) ?_
  refine ss_lock (n := (n_known + 1)) .rt (fun s_21 : (List ((List Str) × (List Str))) => [some (dP p_known), some ((dDc kS (dLo G.K (dT2 G.K dS dS))) a_habits), some ((dT4 G.K dI dI dS dS) a_step), some (dI a_step.1), some (dI a_step.2.1), some (dS a_step.2.2.1), some (dS a_step.2.2.2), some (dP p_found_1), none, none]) (fun s_21 : (List ((List Str) × (List Str))) => ((p_found_1, oLst (s_21.map (dT2 G.K (dVt G.K dS) (dVt G.K dS)))) :: O)) (fun s_21 : (List ((List Str) × (List Str))) => a_known) (own_up hO_known) (fun _ => (own_up hO_known)) (fun od_3 us_4 => ?_) ?_
  ·
    refine ss_fold (Γ := [some (dP p_known), some ((dDc kS (dLo G.K (dT2 G.K dS dS))) a_habits), some ((dT4 G.K dI dI dS dS) a_step), some (dI a_step.1), some (dI a_step.2.1), some (dS a_step.2.2.1), some (dS a_step.2.2.2), some (dP p_found_1), none, none]) (df := (dT2 G.K (dT2 G.K dS (dVt G.K dS)) dI)) (s0 := ([] : List ((List Str) × (List Str)))) .nx (fun s_5 : (List ((List Str) × (List Str))) => [some (dP p_known), some ((dDc kS (dLo G.K (dT2 G.K dS dS))) a_habits), some ((dT4 G.K dI dI dS dS) a_step), some (dI a_step.1), some (dI a_step.2.1), some (dS a_step.2.2.1), some (dS a_step.2.2.2), some (dP p_found_1), none, none]) (fun (s_5 : (List ((List Str) × (List Str)))) (x_6 : ((Str × (List Str)) × Int)) => (([some (dP p_known), some ((dDc kS (dLo G.K (dT2 G.K dS dS))) a_habits), some ((dT4 G.K dI dI dS dS) a_step), some (dI a_step.1), some (dI a_step.2.1), some (dS a_step.2.2.1), some (dS a_step.2.2.2), some (dP p_found_1), none, none]).set 8 (some ((dT2 G.K dS (dVt G.K dS)) x_6.1))).set 9 (some (dI x_6.2))) (fun s_5 : (List ((List Str) × (List Str))) => ((p_found_1, oLst (s_5.map (dT2 G.K (dVt G.K dS) (dVt G.K dS)))) :: (O.set n_known (p_known, oDnL G knST (dT2 G.K dS (dVt G.K dS)) dI p_known od_3 us_4 a_known)))) (ei_itemsN (kvs := a_known) (dl_lck (n := (n_known + 1))) (own_up (set_at hO_known)) ⟨(n_known + 1), _, (own_up (set_at hO_known))⟩ (e_var V_P_heard_by_0 rfl) (fun _ => rfl) rfl) (by exact ⟨.inr rfl, .inr rfl, .inr rfl, .inr rfl, .inr rfl, .inr rfl, .inr rfl, .inr rfl, .inl rfl, .inl rfl, trivial⟩) rfl (fun _ => ⟨(n_known + 1), _, (own_up (set_at hO_known))⟩) (fun s_5 x_6 => (tj_tup (tjs_cons (tj_name S_P_heard_by_8) (tjs_cons (tj_name S_P_heard_by_9) tjs_nil (fun _ => rfl)) (fun _ => rfl)) (fun _ => rfl) (fun _ => rfl))) ?_ ?_ (fun _ _ => rfl)
    ·
      intro s_5 x_6 pre_7 post_8 hs_9 hf_10
      have hm_11 : x_6 ∈ a_known := by rw [hs_9]; simp
      have hpl_12 : pre_7.length < (a_known).length := by rw [hs_9, List.length_append, List.length_cons]; omega
      have hgrow_13 : (s_5).length ≤ (([] : List ((List Str) × (List Str)))).length + 1 * pre_7.length := by
        rw [hf_10]
        refine foldl_meas (m := fun s_5 : (List ((List Str) × (List Str))) => (s_5).length) ?_ (s0 := ([] : List ((List Str) × (List Str))))
        intro _ _
        first | exact app_le | exact putIf_len | (simp only [lt]; exact dPut_len) | (simp only [lt]; split <;> first | exact dPut_len | omega) | ((try simp only [lt]); (repeat' split) <;> first | exact dPut_len | exact Nat.le_succ _) | (simp only [lt, slen_app, signAt_len, List.length_append, List.length_cons, List.length_nil]; omega) | ((try simp only [lt]); (repeat' split) <;> ((try simp only [lt, slen_app, signAt_len, List.length_append, List.length_cons, List.length_nil]); omega))
      have htl := hpre.2 _ hm_11
      refine ss_if .nx (t_w (w_and (t_cmp c_eqS (e_ixT (i := (0 : Int)) rfl (e_var V_P_heard_by_8 rfl) e_int (fun _ _ => rfl)) (e_var V_P_heard_by_5 rfl) rfl) (fun hb_14 => (w_and1 (t_cmp c_lt (e_var V_P_heard_by_9 rfl) (e_var V_P_heard_by_3 rfl) rfl))))) (fun hc_16 => ?_) (fun hc_16 => ?_)
      ·
        refine ss_app (f := (dT2 G.K (dVt G.K dS) (dVt G.K dS))) (xs := s_5) (y := (x_6.1.2, (m_P_as_told a_habits a_step.2.2.1 x_6.1.2))) (n := 0) .nx rfl (e_var V_P_heard_by_7 rfl) (e_tup (a_cons (e_ixT (i := (1 : Int)) rfl (e_var V_P_heard_by_8 rfl) e_int (fun _ _ => rfl)) (a_cons (e_call (k_P_as_told A) (by decide) G_P_heard_by_as_told ⟨a_habits, a_step.2.2.1, x_6.1.2, (by trivial), rfl, rfl⟩ (a_cons (e_var V_P_heard_by_1 rfl) (a_cons (e_var V_P_heard_by_5 rfl) (a_cons (e_ixT (i := (1 : Int)) rfl (e_var V_P_heard_by_8 rfl) e_int (fun _ _ => rfl)) a_nil (fun _ => rfl)) (fun _ => rfl)) (fun _ => rfl)) (fun _ => rfl)) a_nil (fun _ => rfl)) (fun _ => rfl)) (Nat.le_of_ble_eq_true rfl)) (by trivial) (fun _ => rfl) rfl (fun _ => rfl) ?_
        intro found_17 hfound_17
        have hfound_17_l : found_17.length = (s_5).length + 1 := by rw [hfound_17, List.length_append]; rfl
        exact ss_end (hold_end (by exact ⟨.inr rfl, .inr rfl, .inr rfl, .inr rfl, .inr rfl, .inr rfl, .inr rfl, .inr rfl, .inl rfl, .inl rfl, trivial⟩))
      ·
        exact ss_end (hold_end (by exact ⟨.inr rfl, .inr rfl, .inr rfl, .inr rfl, .inr rfl, .inr rfl, .inr rfl, .inr rfl, .inl rfl, .inl rfl, trivial⟩))
    intro s_5 he_L0
    have hgrow_20 : (s_5).length ≤ (([] : List ((List Str) × (List Str)))).length + 1 * (a_known).length := by
      rw [he_L0]
      refine foldl_meas (m := fun s_5 : (List ((List Str) × (List Str))) => (s_5).length) ?_ (s0 := ([] : List ((List Str) × (List Str))))
      intro _ _
      first | exact app_le | exact putIf_len | (simp only [lt]; exact dPut_len) | (simp only [lt]; split <;> first | exact dPut_len | omega) | ((try simp only [lt]); (repeat' split) <;> first | exact dPut_len | exact Nat.le_succ _) | (simp only [lt, slen_app, signAt_len, List.length_append, List.length_cons, List.length_nil]; omega) | ((try simp only [lt]); (repeat' split) <;> ((try simp only [lt, slen_app, signAt_len, List.length_append, List.length_cons, List.length_nil]); omega))
    exact ss_end (hold_end (by exact ⟨.inr rfl, .inr rfl, .inr rfl, .inr rfl, .inr rfl, .inr rfl, .inr rfl, .inr rfl, .inl rfl, .inl rfl, trivial⟩))
  intro s_21 hs_21
  refine ss_freeze (G := G) (i := 7) rfl ?_
  exact ss_ret (e_var V_P_heard_by_7 rfl) (fun _ _ _ h => h)
theorem k_P_heard_by {G : Cfg} (A : All G) : Callee G 2 "heard_by" (sp_P_heard_by G) := by
  refine A.d_P_heard_by.callee (N := N_P_heard_by) (ps := ["known", "habits", "step"]) (scope_of rfl rfl rfl (by decide +kernel)) (fun ds O rk h => ?_) (fun _ _ _ _ _ _ us hl => match us, hl with | [_, _, _], _ => rfl) (fun ds O rk h => ?_)
  · obtain ⟨n_known, p_known, a_known, a_habits, a_step, hp, hO, rfl, rfl⟩ := h; rfl
  · obtain ⟨n_known, p_known, a_known, a_habits, a_step, hp, hO, rfl, rfl⟩ := h; exact ⟨_, _, _, _, b_P_heard_by A O n_known p_known a_known a_habits a_step hO hp, rfl⟩
def N_P_open_sights : List Str := ["book", "known", "number", "sight"]
def C_P_open_sights : Sc := ⟨2, N_P_open_sights, defScope (top 5), true, true⟩
instance : Calm C_P_open_sights := ⟨rfl⟩
theorem nd_P_open_sights : C_P_open_sights.N.Nodup := by decide +kernel
theorem V_P_open_sights_0 : Var C_P_open_sights 0 "book" := var_of (by decide +kernel)
theorem S_P_open_sights_1 : Loca C_P_open_sights 1 "known" := loc_of (by decide +kernel)
theorem G_P_open_sights_enumerate : Glo C_P_open_sights "enumerate" := glo_of (by decide +kernel)
theorem G_P_open_sights_floors : Glo C_P_open_sights "floors" := glo_of (by decide +kernel)
theorem b_P_open_sights {G : Cfg} (A : All G) (O : Own) (a_book : BookV) (hpre : BkOk a_book) : SS G C_P_open_sights (defBody (top 5)) (frame0 N_P_open_sights [(dBook G) a_book]) O (fnN (fun r => oLst (List.map dI r)) O) (.rt (m_P_open_sights a_book)) := by
  unfold m_P_open_sights
  have hz1 : (m_P_Book_sights a_book).length ≤ 24 := hpre.lv
  refine ss_fr70 (Γ1 := [some ((dBook G) a_book), none, none, none]) (by exact ⟨.inr rfl, .inl rfl, .inl rfl, .inl rfl, trivial⟩) ?_
  refine ss_asg (f := (dDc kS (dO dI))) .rt S_P_open_sights_1 (fun _ => rfl) (en_dic (en_call (k_P_floors A) (by decide) G_P_open_sights_floors ⟨a_book, (by trivial), rfl, rfl⟩ (a_cons (e_var V_P_open_sights_0 rfl) a_nil (fun _ => rfl)) (fun _ => rfl))) ?_
  intro known_1 hknown_1
  have hkn : ∀ x ∈ enumL (m_P_Book_sights a_book), dHas known_1 x.2.1 = true := fun x hx => by rw [hknown_1]; exact floors_mem (hpre.see _ (mem_enum hx).2.2)
  exact ss_retN (en_lcG (own := [("number", 2), ("sight", 3)]) (df := (dT2 G.K dI (dT3 G.K dS dI (dVt G.K dS)))) (dg := dI) (xs := (enumL (m_P_Book_sights a_book))) (pf := fun e_2 => (m_P_is_above e_2.2.2.1 (dGet known_1 e_2.2.1))) (g := fun e_2 => e_2.1) nd_P_open_sights (ei_enum (f := (dT3 G.K dS dI (dVt G.K dS))) (xs := (m_P_Book_sights a_book)) G_P_open_sights_enumerate A.b_enumerate (en_lst (en_meth0 (k_P_Book_sights A) (by decide) (e_var V_P_open_sights_0 rfl) (by decide +kernel) ⟨a_book, True.intro, rfl, rfl⟩ (fun _ => ⟨_, rfl⟩))) (fun _ => rfl)) (fun _ _ => trivial) (blkOk_by (by decide +kernel)) (fun e_2 => (tj_tup (tjs_cons (tj_name (loc_of (i := 2) (by decide +kernel))) (tjs_cons (tj_name (loc_of (i := 3) (by decide +kernel))) tjs_nil (fun _ => rfl)) (fun _ => rfl)) (fun _ => rfl) (fun _ => rfl))) (by decide) (fun e_2 hm_3 _ _ => by have := mem_enum hm_3; exact ts_one (t_val (e_call (k_P_is_above A) (by decide) (glo_of (by decide +kernel)) ⟨e_2.2.2.1, (dGet known_1 e_2.2.1), True.intro, rfl, rfl⟩ (a_cons (e_ixT (i := (1 : Int)) rfl (e_var (var_of (i := 3) (by decide +kernel)) rfl) e_int (fun _ _ => rfl)) (a_cons (e_getF (f := (dO dI)) (kvs := known_1) (fun _ _ => kS_inj) (e_var (var_of (i := 1) (by decide +kernel)) rfl) isK_S (e_ixT (i := (0 : Int)) rfl (e_var (var_of (i := 3) (by decide +kernel)) rfl) e_int (fun _ _ => rfl)) (by trivial) (fun _ _ => rfl)) a_nil (fun _ => rfl)) (fun _ => rfl)) (fun _ => rfl)) (fun _ _ => rfl))) (fun e_2 hm_3 hp_4 _ _ => by have := mem_enum hm_3; exact (e_var (var_of (i := 2) (by decide +kernel)) rfl)) (by trivial) (fun _ _ => rfl)) (fun _ _ _ h => h)
theorem k_P_open_sights {G : Cfg} (A : All G) : Callee G 3 "open_sights" (sp_P_open_sights G) := by
  refine A.d_P_open_sights.callee (N := N_P_open_sights) (ps := ["book"]) (scope_of rfl rfl rfl (by decide +kernel)) (fun ds O rk h => ?_) (fun _ _ _ _ _ _ us hl => match us, hl with | [_], _ => rfl) (fun ds O rk h => ?_)
  · obtain ⟨a_book, hp, rfl, rfl⟩ := h; rfl
  · obtain ⟨a_book, hp, rfl, rfl⟩ := h; exact ⟨_, _, _, _, b_P_open_sights A O a_book hp, rfl⟩
def N_P_earliest_versions : List Str := ["book", "habits", "sights", "known", "person", "hour", "tale", "i", "step", "told", "version"]
def C_P_earliest_versions : Sc := ⟨5, N_P_earliest_versions, defScope (top 20), true, true⟩
instance : Calm C_P_earliest_versions := ⟨rfl⟩
theorem nd_P_earliest_versions : C_P_earliest_versions.N.Nodup := by decide +kernel
theorem V_P_earliest_versions_0 : Var C_P_earliest_versions 0 "book" := var_of (by decide +kernel)
theorem V_P_earliest_versions_1 : Var C_P_earliest_versions 1 "habits" := var_of (by decide +kernel)
theorem V_P_earliest_versions_3 : Var C_P_earliest_versions 3 "known" := var_of (by decide +kernel)
theorem V_P_earliest_versions_4 : Var C_P_earliest_versions 4 "person" := var_of (by decide +kernel)
theorem V_P_earliest_versions_5 : Var C_P_earliest_versions 5 "hour" := var_of (by decide +kernel)
theorem V_P_earliest_versions_6 : Var C_P_earliest_versions 6 "tale" := var_of (by decide +kernel)
theorem V_P_earliest_versions_8 : Var C_P_earliest_versions 8 "step" := var_of (by decide +kernel)
theorem V_P_earliest_versions_9 : Var C_P_earliest_versions 9 "told" := var_of (by decide +kernel)
theorem V_P_earliest_versions_10 : Var C_P_earliest_versions 10 "version" := var_of (by decide +kernel)
theorem S_P_earliest_versions_2 : Loca C_P_earliest_versions 2 "sights" := loc_of (by decide +kernel)
theorem S_P_earliest_versions_3 : Loca C_P_earliest_versions 3 "known" := loc_of (by decide +kernel)
theorem S_P_earliest_versions_4 : Loca C_P_earliest_versions 4 "person" := loc_of (by decide +kernel)
theorem S_P_earliest_versions_5 : Loca C_P_earliest_versions 5 "hour" := loc_of (by decide +kernel)
theorem S_P_earliest_versions_6 : Loca C_P_earliest_versions 6 "tale" := loc_of (by decide +kernel)
theorem S_P_earliest_versions_8 : Loca C_P_earliest_versions 8 "step" := loc_of (by decide +kernel)
theorem S_P_earliest_versions_9 : Loca C_P_earliest_versions 9 "told" := loc_of (by decide +kernel)
theorem S_P_earliest_versions_10 : Loca C_P_earliest_versions 10 "version" := loc_of (by decide +kernel)
theorem G_P_earliest_versions_MOST_VERSIONS : Glo C_P_earliest_versions "MOST_VERSIONS" := glo_of (by decide +kernel)
theorem G_P_earliest_versions_heard_by : Glo C_P_earliest_versions "heard_by" := glo_of (by decide +kernel)
theorem G_P_earliest_versions_len : Glo C_P_earliest_versions "len" := glo_of (by decide +kernel)
theorem G_P_earliest_versions_min : Glo C_P_earliest_versions "min" := glo_of (by decide +kernel)
theorem G_P_earliest_versions_open_sights : Glo C_P_earliest_versions "open_sights" := glo_of (by decide +kernel)
theorem G_P_earliest_versions_sorted : Glo C_P_earliest_versions "sorted" := glo_of (by decide +kernel)
theorem G_P_earliest_versions_timed_tellings : Glo C_P_earliest_versions "timed_tellings" := glo_of (by decide +kernel)
theorem b_P_earliest_versions {G : Cfg} (A : All G) (O : Own) (a_book : BookV) (a_habits : (List (Str × (List (Str × Str))))) (hpre : VerOk a_book a_habits ∧ LamOk G "earliest_versions" O) : ∃ c0, (∃ P, CodeA G "earliest_versions" c0 P) ∧ SSq G C_P_earliest_versions ("earliest_versions" ++ ".<locals>.") c0 (defBody (top 20)) (frame0 N_P_earliest_versions [(dBook G) a_book, (dDc kS (dLo G.K (dT2 G.K dS dS))) a_habits]) O (fnV (dDn G knST (dT2 G.K dS (dVt G.K dS)) dI) O) (.rt (m_P_earliest_versions a_book a_habits)) := by
  obtain ⟨nL, cL, PL, hOL, hCL⟩ := hpre.2
  refine ⟨cL, ⟨PL, hCL⟩, ?_⟩
  unfold m_P_earliest_versions
  obtain ⟨T, hT⟩ := hpre.1.ex
  have hbk := hpre.1.bk
  have hos : (m_P_open_sights a_book).length ≤ 24 := open_len hbk
  refine ssq_asg (f := (dLo G.K (dT3 G.K dS dI (dVt G.K dS)))) .rt S_P_earliest_versions_2 (fun _ => rfl) (en_lst (en_meth0 (k_P_Book_sights A) (by decide) (e_var V_P_earliest_versions_0 rfl) (by decide +kernel) ⟨a_book, True.intro, rfl, rfl⟩ (fun _ => ⟨_, rfl⟩))) ?_
  intro sights_1 hsights_1
  have hsi : ∀ x ∈ m_P_open_sights a_book, inR sights_1.length x := by rw [hsights_1]; exact opens_in
  refine ssq_asgT S_P_earliest_versions_3 (fun _ => rfl) (et_dn0 (kn := knST) (dk := (dT2 G.K dS (dVt G.K dS))) (f := dI)) ?_
  intro p_known_2
  refine ssq_fold (Γ := [some ((dBook G) a_book), some ((dDc kS (dLo G.K (dT2 G.K dS dS))) a_habits), some ((dLo G.K (dT3 G.K dS dI (dVt G.K dS))) sights_1), some (dP p_known_2), none, none, none, none, none, none, none]) (df := (dT3 G.K dS dI (dVt G.K dS))) (s0 := ([] : (List ((Str × (List Str)) × Int)))) .rt (fun s_6 : (List ((Str × (List Str)) × Int)) => [some ((dBook G) a_book), some ((dDc kS (dLo G.K (dT2 G.K dS dS))) a_habits), some ((dLo G.K (dT3 G.K dS dI (dVt G.K dS))) sights_1), some (dP p_known_2), none, none, none, none, none, none, none]) (fun (s_6 : (List ((Str × (List Str)) × Int))) (x_7 : (Str × Int × (List Str))) => ((([some ((dBook G) a_book), some ((dDc kS (dLo G.K (dT2 G.K dS dS))) a_habits), some ((dLo G.K (dT3 G.K dS dI (dVt G.K dS))) sights_1), some (dP p_known_2), none, none, none, none, none, none, none]).set 4 (some (dS x_7.1))).set 5 (some (dI x_7.2.1))).set 6 (some ((dVt G.K dS) x_7.2.2))) (fun s_6 : (List ((Str × (List Str)) × Int)) => ((p_known_2, oDn G knST (dT2 G.K dS (dVt G.K dS)) dI p_known_2 s_6) :: O)) (ei_sortL (f := (dT3 G.K dS dI (dVt G.K dS))) (xs := ((m_P_open_sights a_book).map fun e_3 => (nth sights_1 e_3))) (key := fun x : (Str × Int × (List Str)) => x.2.1) G_P_earliest_versions_sorted A.b_sorted (en_lst (en_lc (own := [("i", 7)]) (df := dI) (dg := (dT3 G.K dS dI (dVt G.K dS))) (xs := (m_P_open_sights a_book)) (g := fun e_3 => (nth sights_1 e_3)) nd_P_earliest_versions (ei_list (en_lst (en_call (k_P_open_sights A) (by decide) G_P_earliest_versions_open_sights ⟨a_book, (by trivial), rfl, rfl⟩ (a_cons (e_var V_P_earliest_versions_0 rfl) a_nil (fun _ => rfl)) (fun _ => rfl)))) (fun _ _ => trivial) (blkOk_by (by decide +kernel)) (fun e_3 => (tj_name (loc_of (i := 7) (by decide +kernel)))) (by decide) (fun e_3 hm_4 _ _ => (e_nthL (f := (dT3 G.K dS dI (dVt G.K dS))) (xs := sights_1) (e_var (var_of (i := 2) (by decide +kernel)) rfl) (e_var (var_of (i := 7) (by decide +kernel)) rfl) (by trivial) (fun _ _ => rfl))) (by trivial) (fun _ _ => rfl))) key_T3 (own_up hOL) hCL.tb (by exact ⟨rfl, rfl, rfl, by decide +kernel, rfl, rfl, fun _ => rfl, fun _ _ _ _ _ => rfl⟩) (fun _ => rfl)) (by exact ⟨.inr rfl, .inr rfl, .inr rfl, .inr rfl, .inl rfl, .inl rfl, .inl rfl, .inl rfl, .inl rfl, .inl rfl, .inl rfl, trivial⟩) rfl (fun _ => trivial) (fun s_6 x_7 => (tj_tup (tjs_cons (tj_name S_P_earliest_versions_4) (tjs_cons (tj_name S_P_earliest_versions_5) (tjs_cons (tj_name S_P_earliest_versions_6) tjs_nil (fun _ => rfl)) (fun _ => rfl)) (fun _ => rfl)) (fun _ => rfl) (fun _ => rfl))) ?_ ?_ (fun _ _ => rfl)
  ·
    intro s_6 x_7 pre_8 post_9 hs_10 hf_11
    have hm_12 : x_7 ∈ (((m_P_open_sights a_book).map fun e_3 => (nth sights_1 e_3)).mergeSort fun a b => decide (a.2.1 ≤ b.2.1)) := by rw [hs_10]; simp
    have hpl_13 : pre_8.length < ((((m_P_open_sights a_book).map fun e_3 => (nth sights_1 e_3)).mergeSort fun a b => decide (a.2.1 ≤ b.2.1))).length := by rw [hs_10, List.length_append, List.length_cons]; omega
    have hv0 : VInv a_book.crew T s_6 := by rw [hf_11]; exact ver_first (fun x hx => ver_src hT hbk (by rw [← hsights_1, hs_10]; exact List.mem_append_left _ hx))
    have hl0 := Nat.le_trans (vinv_len hv0) hT.few
    refine ss_let (a := dSetd s_6 (x_7.1, x_7.2.2) x_7.2.1) .nx ?_
    intro known_14 hknown_14
    refine ss_dropT (et_setdefN (f := dI) (kvs := s_6) (key := (x_7.1, x_7.2.2)) (y := x_7.2.1) (n := 0) nk_ST rfl (e_var V_P_earliest_versions_3 rfl) (e_tup (a_cons (e_var V_P_earliest_versions_4 rfl) (a_cons (e_var V_P_earliest_versions_6 rfl) a_nil (fun _ => rfl)) (fun _ => rfl)) (Nat.le_of_ble_eq_true rfl)) (e_var V_P_earliest_versions_5 rfl) (by trivial) (fun _ => ⟨rfl, rfl, rfl, rfl⟩)) (fun _ => rfl) ?_
    rw [← hknown_14]
    exact ss_end (hold_end (by exact ⟨.inr rfl, .inr rfl, .inr rfl, .inr rfl, .inl rfl, .inl rfl, .inl rfl, .inl rfl, .inl rfl, .inl rfl, .inl rfl, trivial⟩))
  intro s_6 he_L0
  have hv00 : VInv a_book.crew T s_6 := by rw [he_L0]; exact ver_first (fun x hx => ver_src hT hbk (by rw [← hsights_1]; exact hx))
  refine ss_loop (Γ := [some ((dBook G) a_book), some ((dDc kS (dLo G.K (dT2 G.K dS dS))) a_habits), some ((dLo G.K (dT3 G.K dS dI (dVt G.K dS))) sights_1), some (dP p_known_2), none, none, none, none, none, none, none]) (df := (dT4 G.K dI dI dS dS)) (s0 := s_6) (fun s_15 : (List ((Str × (List Str)) × Int)) => [some ((dBook G) a_book), some ((dDc kS (dLo G.K (dT2 G.K dS dS))) a_habits), some ((dLo G.K (dT3 G.K dS dI (dVt G.K dS))) sights_1), some (dP p_known_2), none, none, none, none, none, none, none]) (fun (s_15 : (List ((Str × (List Str)) × Int))) (x_16 : (Int × Int × Str × Str)) => ([some ((dBook G) a_book), some ((dDc kS (dLo G.K (dT2 G.K dS dS))) a_habits), some ((dLo G.K (dT3 G.K dS dI (dVt G.K dS))) sights_1), some (dP p_known_2), none, none, none, none, none, none, none]).set 8 (some ((dT4 G.K dI dI dS dS) x_16))) (fun s_15 : (List ((Str × (List Str)) × Int)) => ((p_known_2, oDn G knST (dT2 G.K dS (dVt G.K dS)) dI p_known_2 s_15) :: O)) (ei_list (e_call (k_P_timed_tellings A) (by decide) G_P_earliest_versions_timed_tellings ⟨a_book, (by trivial), rfl, rfl⟩ (a_cons (e_var V_P_earliest_versions_0 rfl) a_nil (fun _ => rfl)) (fun _ => rfl))) (by exact ⟨.inr rfl, .inr rfl, .inr rfl, .inr rfl, .inl rfl, .inl rfl, .inl rfl, .inl rfl, .inl rfl, .inl rfl, .inl rfl, trivial⟩) rfl (fun _ => trivial) (fun s_15 x_16 => (tj_name S_P_earliest_versions_8)) ?_ ?_ (fun _ _ => rfl)
  ·
    intro s_15 x_16 pre_17 post_18 hs_19 hf_20
    have hm_21 : x_16 ∈ (m_P_timed_tellings a_book) := by rw [hs_19]; simp
    have hpl_22 : pre_17.length < ((m_P_timed_tellings a_book)).length := by rw [hs_19, List.length_append, List.length_cons]; omega
    have hcr := timed_in hbk hm_21
    have hv1 : VInv a_book.crew T s_15 := loop_keepM hf_20 (fun s x s1 hx hi hq => by cases hq; exact ver_turn hT (timed_in hbk (by rw [hs_19]; exact List.mem_append_left _ hx)) hi fun y hy => hy) hv00
    have hl1 := Nat.le_trans (vinv_len hv1) hT.few
    have hhb : s_15.length ≤ 400 ∧ ∀ q ∈ s_15, q.1.2.length ≤ 100 := ⟨hl1, vinv_short hT hv1⟩
    refine ss_fold (Γ := [some ((dBook G) a_book), some ((dDc kS (dLo G.K (dT2 G.K dS dS))) a_habits), some ((dLo G.K (dT3 G.K dS dI (dVt G.K dS))) sights_1), some (dP p_known_2), none, none, none, none, some ((dT4 G.K dI dI dS dS) x_16), none, none]) (df := (dT2 G.K (dVt G.K dS) (dVt G.K dS))) (s0 := s_15) Ret.out (fun s_23 : (List ((Str × (List Str)) × Int)) => [some ((dBook G) a_book), some ((dDc kS (dLo G.K (dT2 G.K dS dS))) a_habits), some ((dLo G.K (dT3 G.K dS dI (dVt G.K dS))) sights_1), some (dP p_known_2), none, none, none, none, some ((dT4 G.K dI dI dS dS) x_16), none, none]) (fun (s_23 : (List ((Str × (List Str)) × Int))) (x_24 : ((List Str) × (List Str))) => (([some ((dBook G) a_book), some ((dDc kS (dLo G.K (dT2 G.K dS dS))) a_habits), some ((dLo G.K (dT3 G.K dS dI (dVt G.K dS))) sights_1), some (dP p_known_2), none, none, none, none, some ((dT4 G.K dI dI dS dS) x_16), none, none]).set 6 (some ((dVt G.K dS) x_24.1))).set 9 (some ((dVt G.K dS) x_24.2))) (fun s_23 : (List ((Str × (List Str)) × Int)) => ((p_known_2, oDn G knST (dT2 G.K dS (dVt G.K dS)) dI p_known_2 s_23) :: O)) (ei_list (e_call (k_P_heard_by A) (by decide) G_P_earliest_versions_heard_by ⟨0, p_known_2, s_15, a_habits, x_16, (by trivial), rfl, rfl, rfl⟩ (a_cons (e_var V_P_earliest_versions_3 rfl) (a_cons (e_var V_P_earliest_versions_1 rfl) (a_cons (e_var V_P_earliest_versions_8 rfl) a_nil (fun _ => rfl)) (fun _ => rfl)) (fun _ => rfl)) (fun _ => rfl))) (by exact ⟨.inr rfl, .inr rfl, .inr rfl, .inr rfl, .inl rfl, .inl rfl, .inl rfl, .inl rfl, .inr rfl, .inl rfl, .inl rfl, trivial⟩) rfl (fun _ => trivial) (fun s_23 x_24 => (tj_tup (tjs_cons (tj_name S_P_earliest_versions_6) (tjs_cons (tj_name S_P_earliest_versions_9) tjs_nil (fun _ => rfl)) (fun _ => rfl)) (fun _ => rfl) (fun _ => rfl))) ?_ ?_ (fun _ _ => rfl)
    ·
      intro s_23 x_24 pre_25 post_26 hs_27 hf_28
      have hm_29 : x_24 ∈ (m_P_heard_by s_15 a_habits x_16) := by rw [hs_27]; simp
      have hpl_30 : pre_25.length < ((m_P_heard_by s_15 a_habits x_16)).length := by rw [hs_27, List.length_append, List.length_cons]; omega
      have hgrow_31 : (s_23).length ≤ (s_15).length + 1 * pre_25.length := by
        rw [hf_28]
        refine foldl_meas (m := fun s_23 : (List ((Str × (List Str)) × Int)) => (s_23).length) ?_ (s0 := s_15)
        intro _ _
        first | exact app_le | exact putIf_len | (simp only [lt]; exact dPut_len) | (simp only [lt]; split <;> first | exact dPut_len | omega) | ((try simp only [lt]); (repeat' split) <;> first | exact dPut_len | exact Nat.le_succ _) | (simp only [lt, slen_app, signAt_len, List.length_append, List.length_cons, List.length_nil]; omega) | ((try simp only [lt]); (repeat' split) <;> ((try simp only [lt, slen_app, signAt_len, List.length_append, List.length_cons, List.length_nil]); omega))
      have hv2 : VInv a_book.crew T s_23 := by rw [hf_28]; exact ver_turn hT hcr hv1 (fun y hy => by rw [hs_27]; exact List.mem_append_left _ hy)
      have hl2 := Nat.le_trans (vinv_len hv2) hT.few
      refine ss_asg (f := (dT2 G.K dS (dVt G.K dS))) .nx S_P_earliest_versions_10 (fun _ => rfl) (e_tup (a_cons (e_ixT (i := (3 : Int)) rfl (e_var V_P_earliest_versions_8 rfl) e_int (fun _ _ => rfl)) (a_cons (e_var V_P_earliest_versions_9 rfl) a_nil (fun _ => rfl)) (fun _ => rfl)) (Nat.le_of_ble_eq_true rfl)) ?_
      intro version_32 hversion_32
      refine ss_putN (f := dI) (kvs := s_23) (y := (imin ((dFind s_23 version_32).getD x_16.1) x_16.1)) (n := 0) .nx nk_ST rfl (e_var V_P_earliest_versions_3 rfl) (e_var V_P_earliest_versions_10 rfl) (e_callB k_min2 G_P_earliest_versions_min A.b_min bt_min (a_cons (e_get2N (kn := knST) (dk := (dT2 G.K dS (dVt G.K dS))) (f := dI) (kvs := s_23) (y := x_16.1) nk_ST (da_own (n := 0) rfl) (e_var V_P_earliest_versions_3 rfl) (e_var V_P_earliest_versions_10 rfl) (e_ixT (i := (0 : Int)) rfl (e_var V_P_earliest_versions_8 rfl) e_int (fun _ _ => rfl)) (fun _ => ⟨rfl, rfl, rfl, rfl⟩)) (a_cons (e_ixT (i := (0 : Int)) rfl (e_var V_P_earliest_versions_8 rfl) e_int (fun _ _ => rfl)) a_nil (fun _ => rfl)) (fun _ => rfl)) (fun _ => rfl)) (by trivial) (fun _ => rfl) ?_
      intro known_33 hknown_33
      exact ss_end (hold_end (by exact ⟨.inr rfl, .inr rfl, .inr rfl, .inr rfl, .inl rfl, .inl rfl, .inl rfl, .inl rfl, .inr rfl, .inl rfl, .inl rfl, trivial⟩))
    intro s_23 he_L2
    have hgrow_36 : (s_23).length ≤ (s_15).length + 1 * ((m_P_heard_by s_15 a_habits x_16)).length := by
      rw [he_L2]
      refine foldl_meas (m := fun s_23 : (List ((Str × (List Str)) × Int)) => (s_23).length) ?_ (s0 := s_15)
      intro _ _
      first | exact app_le | exact putIf_len | (simp only [lt]; exact dPut_len) | (simp only [lt]; split <;> first | exact dPut_len | omega) | ((try simp only [lt]); (repeat' split) <;> first | exact dPut_len | exact Nat.le_succ _) | (simp only [lt, slen_app, signAt_len, List.length_append, List.length_cons, List.length_nil]; omega) | ((try simp only [lt]); (repeat' split) <;> ((try simp only [lt, slen_app, signAt_len, List.length_append, List.length_cons, List.length_nil]); omega))
    have hv3 : VInv a_book.crew T s_23 := by rw [he_L2]; exact ver_turn hT hcr hv1 fun y hy => hy
    have hl3 := Nat.le_trans (vinv_len hv3) hT.few
    refine ss_skip (t_eq (t_cmp c_gt (e_callB (k_lenN (kvs := s_23) nk_ST (da_own (n := 0) rfl) (by trivial)) G_P_earliest_versions_len A.b_len bt_len (a_cons (e_var V_P_earliest_versions_3 rfl) a_nil (fun _ => rfl)) (fun _ => rfl)) (e_globI G_P_earliest_versions_MOST_VERSIONS A.c_MOST_VERSIONS) rfl) (b := (decide ((400 : Int) < (s_23.length : Int)))) (decide_eq_false (by omega))) ?_
    exact ss_end (hold_end (by exact ⟨.inr rfl, .inr rfl, .inr rfl, .inr rfl, .inl rfl, .inl rfl, .inl rfl, .inl rfl, .inl rfl, .inl rfl, .inl rfl, trivial⟩))
  intro s_15 he_L1
  refine ss_freezeN (i := 3) rfl ?_
  exact ss_ret (e_var V_P_earliest_versions_3 rfl) (fun _ _ _ h => h)
theorem k_P_earliest_versions {G : Cfg} (A : All G) : Callee G 6 "earliest_versions" (sp_P_earliest_versions G) := by
  refine A.d_P_earliest_versions.calleeQ (N := N_P_earliest_versions) (ps := ["book", "habits"]) (scope_of rfl rfl rfl (by decide +kernel)) (fun ds O rk h => ?_) (fun _ _ _ _ _ _ us hl => match us, hl with | [_, _], _ => rfl) (fun ds O rk h => ?_)
  · obtain ⟨a_book, a_habits, hp, rfl, rfl⟩ := h; rfl
  · obtain ⟨a_book, a_habits, hp, rfl, rfl⟩ := h; obtain ⟨c0, hc0, hss⟩ := b_P_earliest_versions A O a_book a_habits hp; exact ⟨_, _, _, _, c0, hc0, hss, rfl⟩
def N_P_heard_by_at_f : List Str := ["known", "habits", "step", "hour", "k", "teller", "hearer", "found", "version", "first"]
def C_P_heard_by_at_f : Sc := ⟨1, N_P_heard_by_at_f, defScope (top 19), true, true⟩
instance : Calm C_P_heard_by_at_f := ⟨rfl⟩
theorem V_P_heard_by_at_f_0 : Var C_P_heard_by_at_f 0 "known" := var_of (by decide +kernel)
theorem V_P_heard_by_at_f_1 : Var C_P_heard_by_at_f 1 "habits" := var_of (by decide +kernel)
theorem V_P_heard_by_at_f_2 : Var C_P_heard_by_at_f 2 "step" := var_of (by decide +kernel)
theorem V_P_heard_by_at_f_3 : Var C_P_heard_by_at_f 3 "hour" := var_of (by decide +kernel)
theorem V_P_heard_by_at_f_5 : Var C_P_heard_by_at_f 5 "teller" := var_of (by decide +kernel)
theorem V_P_heard_by_at_f_7 : Var C_P_heard_by_at_f 7 "found" := var_of (by decide +kernel)
theorem V_P_heard_by_at_f_8 : Var C_P_heard_by_at_f 8 "version" := var_of (by decide +kernel)
theorem V_P_heard_by_at_f_9 : Var C_P_heard_by_at_f 9 "first" := var_of (by decide +kernel)
theorem S_P_heard_by_at_f_3 : Loca C_P_heard_by_at_f 3 "hour" := loc_of (by decide +kernel)
theorem S_P_heard_by_at_f_4 : Loca C_P_heard_by_at_f 4 "k" := loc_of (by decide +kernel)
theorem S_P_heard_by_at_f_5 : Loca C_P_heard_by_at_f 5 "teller" := loc_of (by decide +kernel)
theorem S_P_heard_by_at_f_6 : Loca C_P_heard_by_at_f 6 "hearer" := loc_of (by decide +kernel)
theorem S_P_heard_by_at_f_7 : Loca C_P_heard_by_at_f 7 "found" := loc_of (by decide +kernel)
theorem S_P_heard_by_at_f_8 : Loca C_P_heard_by_at_f 8 "version" := loc_of (by decide +kernel)
theorem S_P_heard_by_at_f_9 : Loca C_P_heard_by_at_f 9 "first" := loc_of (by decide +kernel)
theorem G_P_heard_by_at_f_as_told : Glo C_P_heard_by_at_f "as_told" := glo_of (by decide +kernel)
theorem b_P_heard_by_at_f {G : Cfg} (A : All G) (O : Own) (a_known : (List ((Str × (List Str)) × Int))) (a_habits : (List (Str × (List (Str × Str))))) (a_step : (Int × Int × Str × Str)) (hpre : a_known.length ≤ 400 ∧ ∀ q ∈ a_known, q.1.2.length ≤ 100) : SS G C_P_heard_by_at_f (defBody (top 19)) (frame0 N_P_heard_by_at_f [(dDn G knST (dT2 G.K dS (dVt G.K dS)) dI) a_known, (dDc kS (dLo G.K (dT2 G.K dS dS))) a_habits, (dT4 G.K dI dI dS dS) a_step]) O (fnV (dLo G.K (dT2 G.K (dVt G.K dS) (dVt G.K dS))) O) (.rt (m_P_heard_by_at_f a_known a_habits a_step)) := by
  unfold m_P_heard_by_at_f
  have hn0 : ([] : List (List Str × List Str)).length = 0 := rfl
  have hk4 := hpre.1
  refine ss_fr70 (Γ1 := [some ((dDn G knST (dT2 G.K dS (dVt G.K dS)) dI) a_known), some ((dDc kS (dLo G.K (dT2 G.K dS dS))) a_habits), some ((dT4 G.K dI dI dS dS) a_step), none, none, none, none, none, none, none]) (by exact ⟨.inr rfl, .inr rfl, .inr rfl, .inl rfl, .inl rfl, .inl rfl, .inl rfl, .inl rfl, .inl rfl, .inl rfl, trivial⟩) ?_
  refine ss_unp (d := (dT4 G.K dI dI dS dS) a_step) (e_var V_P_heard_by_at_f_2 rfl) (tj_tup (tjs_cons (tj_name S_P_heard_by_at_f_3) (tjs_cons (tj_name S_P_heard_by_at_f_4) (tjs_cons (tj_name S_P_heard_by_at_f_5) (tjs_cons (tj_name S_P_heard_by_at_f_6) tjs_nil (fun _ => rfl)) (fun _ => rfl)) (fun _ => rfl)) (fun _ => rfl)) (fun _ => rfl) (fun _ => rfl)) (fun _ => rfl) (fun _ => rfl) (fun _ => rfl) ?_
  refine ss_new (od := oLst (([] : List ((List Str) × (List Str))).map (dT2 G.K (dVt G.K dS) (dVt G.K dS)))) S_P_heard_by_at_f_7 (fun _ => rfl) (en_list (ds := []) a_nil (Nat.le_of_ble_eq_true rfl)) ?_
  intro p_found_1
  refine ss_fr70 (Γ1 := [some ((dDn G knST (dT2 G.K dS (dVt G.K dS)) dI) a_known), some ((dDc kS (dLo G.K (dT2 G.K dS dS))) a_habits), some ((dT4 G.K dI dI dS dS) a_step), some (dI a_step.1), some (dI a_step.2.1), some (dS a_step.2.2.1), some (dS a_step.2.2.2), some (dP p_found_1), none, none]) (by exact ⟨.inr rfl, .inr rfl, .inr rfl, .inr rfl, .inr rfl, .inr rfl, .inr rfl, .inr rfl, .inl rfl, .inl rfl, trivial⟩) ?_
  refine ss_fold (Γ := [some ((dDn G knST (dT2 G.K dS (dVt G.K dS)) dI) a_known), some ((dDc kS (dLo G.K (dT2 G.K dS dS))) a_habits), some ((dT4 G.K dI dI dS dS) a_step), some (dI a_step.1), some (dI a_step.2.1), some (dS a_step.2.2.1), some (dS a_step.2.2.2), some (dP p_found_1), none, none]) (df := (dT2 G.K (dT2 G.K dS (dVt G.K dS)) dI)) (s0 := ([] : List ((List Str) × (List Str)))) .rt (fun s_3 : (List ((List Str) × (List Str))) => [some ((dDn G knST (dT2 G.K dS (dVt G.K dS)) dI) a_known), some ((dDc kS (dLo G.K (dT2 G.K dS dS))) a_habits), some ((dT4 G.K dI dI dS dS) a_step), some (dI a_step.1), some (dI a_step.2.1), some (dS a_step.2.2.1), some (dS a_step.2.2.2), some (dP p_found_1), none, none]) (fun (s_3 : (List ((List Str) × (List Str)))) (x_4 : ((Str × (List Str)) × Int)) => (([some ((dDn G knST (dT2 G.K dS (dVt G.K dS)) dI) a_known), some ((dDc kS (dLo G.K (dT2 G.K dS dS))) a_habits), some ((dT4 G.K dI dI dS dS) a_step), some (dI a_step.1), some (dI a_step.2.1), some (dS a_step.2.2.1), some (dS a_step.2.2.2), some (dP p_found_1), none, none]).set 8 (some ((dT2 G.K dS (dVt G.K dS)) x_4.1))).set 9 (some (dI x_4.2))) (fun s_3 : (List ((List Str) × (List Str))) => ((p_found_1, oLst (s_3.map (dT2 G.K (dVt G.K dS) (dVt G.K dS)))) :: O)) (ei_itemsN (kvs := a_known) dl_frz trivial trivial (e_var V_P_heard_by_at_f_0 rfl) (fun _ => rfl) rfl) (by exact ⟨.inr rfl, .inr rfl, .inr rfl, .inr rfl, .inr rfl, .inr rfl, .inr rfl, .inr rfl, .inl rfl, .inl rfl, trivial⟩) rfl (fun _ => trivial) (fun s_3 x_4 => (tj_tup (tjs_cons (tj_name S_P_heard_by_at_f_8) (tjs_cons (tj_name S_P_heard_by_at_f_9) tjs_nil (fun _ => rfl)) (fun _ => rfl)) (fun _ => rfl) (fun _ => rfl))) ?_ ?_ (fun _ _ => rfl)
  ·
    intro s_3 x_4 pre_5 post_6 hs_7 hf_8
    have hm_9 : x_4 ∈ a_known := by rw [hs_7]; simp
    have hpl_10 : pre_5.length < (a_known).length := by rw [hs_7, List.length_append, List.length_cons]; omega
    have hgrow_11 : (s_3).length ≤ (([] : List ((List Str) × (List Str)))).length + 1 * pre_5.length := by
      rw [hf_8]
      refine foldl_meas (m := fun s_3 : (List ((List Str) × (List Str))) => (s_3).length) ?_ (s0 := ([] : List ((List Str) × (List Str))))
      intro _ _
      first | exact app_le | exact putIf_len | (simp only [lt]; exact dPut_len) | (simp only [lt]; split <;> first | exact dPut_len | omega) | ((try simp only [lt]); (repeat' split) <;> first | exact dPut_len | exact Nat.le_succ _) | (simp only [lt, slen_app, signAt_len, List.length_append, List.length_cons, List.length_nil]; omega) | ((try simp only [lt]); (repeat' split) <;> ((try simp only [lt, slen_app, signAt_len, List.length_append, List.length_cons, List.length_nil]); omega))
    have htl := hpre.2 _ hm_9
    refine ss_if .nx (t_w (w_and (t_cmp c_eqS (e_ixT (i := (0 : Int)) rfl (e_var V_P_heard_by_at_f_8 rfl) e_int (fun _ _ => rfl)) (e_var V_P_heard_by_at_f_5 rfl) rfl) (fun hb_12 => (w_and1 (t_cmp c_lt (e_var V_P_heard_by_at_f_9 rfl) (e_var V_P_heard_by_at_f_3 rfl) rfl))))) (fun hc_14 => ?_) (fun hc_14 => ?_)
    ·
      refine ss_app (f := (dT2 G.K (dVt G.K dS) (dVt G.K dS))) (xs := s_3) (y := (x_4.1.2, (m_P_as_told a_habits a_step.2.2.1 x_4.1.2))) (n := 0) .nx rfl (e_var V_P_heard_by_at_f_7 rfl) (e_tup (a_cons (e_ixT (i := (1 : Int)) rfl (e_var V_P_heard_by_at_f_8 rfl) e_int (fun _ _ => rfl)) (a_cons (e_call (k_P_as_told A) (by decide) G_P_heard_by_at_f_as_told ⟨a_habits, a_step.2.2.1, x_4.1.2, (by trivial), rfl, rfl⟩ (a_cons (e_var V_P_heard_by_at_f_1 rfl) (a_cons (e_var V_P_heard_by_at_f_5 rfl) (a_cons (e_ixT (i := (1 : Int)) rfl (e_var V_P_heard_by_at_f_8 rfl) e_int (fun _ _ => rfl)) a_nil (fun _ => rfl)) (fun _ => rfl)) (fun _ => rfl)) (fun _ => rfl)) a_nil (fun _ => rfl)) (fun _ => rfl)) (Nat.le_of_ble_eq_true rfl)) (by trivial) (fun _ => rfl) rfl (fun _ => rfl) ?_
      intro found_15 hfound_15
      have hfound_15_l : found_15.length = (s_3).length + 1 := by rw [hfound_15, List.length_append]; rfl
      exact ss_end (hold_end (by exact ⟨.inr rfl, .inr rfl, .inr rfl, .inr rfl, .inr rfl, .inr rfl, .inr rfl, .inr rfl, .inl rfl, .inl rfl, trivial⟩))
    ·
      exact ss_end (hold_end (by exact ⟨.inr rfl, .inr rfl, .inr rfl, .inr rfl, .inr rfl, .inr rfl, .inr rfl, .inr rfl, .inl rfl, .inl rfl, trivial⟩))
  intro s_3 he_L0
  have hgrow_18 : (s_3).length ≤ (([] : List ((List Str) × (List Str)))).length + 1 * (a_known).length := by
    rw [he_L0]
    refine foldl_meas (m := fun s_3 : (List ((List Str) × (List Str))) => (s_3).length) ?_ (s0 := ([] : List ((List Str) × (List Str))))
    intro _ _
    first | exact app_le | exact putIf_len | (simp only [lt]; exact dPut_len) | (simp only [lt]; split <;> first | exact dPut_len | omega) | ((try simp only [lt]); (repeat' split) <;> first | exact dPut_len | exact Nat.le_succ _) | (simp only [lt, slen_app, signAt_len, List.length_append, List.length_cons, List.length_nil]; omega) | ((try simp only [lt]); (repeat' split) <;> ((try simp only [lt, slen_app, signAt_len, List.length_append, List.length_cons, List.length_nil]); omega))
  refine ss_freeze (G := G) (i := 7) rfl ?_
  exact ss_ret (e_var V_P_heard_by_at_f_7 rfl) (fun _ _ _ h => h)
theorem k_P_heard_by_at_f {G : Cfg} (A : All G) : Callee G 2 "heard_by" (sp_P_heard_by_at_f G) := by
  refine A.d_P_heard_by.callee (N := N_P_heard_by_at_f) (ps := ["known", "habits", "step"]) (scope_of rfl rfl rfl (by decide +kernel)) (fun ds O rk h => ?_) (fun _ _ _ _ _ _ us hl => match us, hl with | [_, _, _], _ => rfl) (fun ds O rk h => ?_)
  · obtain ⟨a_known, a_habits, a_step, hp, rfl, rfl⟩ := h; rfl
  · obtain ⟨a_known, a_habits, a_step, hp, rfl, rfl⟩ := h; exact ⟨_, _, _, _, b_P_heard_by_at_f A O a_known a_habits a_step hp, rfl⟩
def N_P_traced : List Str := ["book", "habits", "person", "tale", "hour", "known", "limits", "found", "step", "own", "told", "version"]
def C_P_traced : Sc := ⟨6, N_P_traced, defScope (top 21), true, true⟩
instance : Calm C_P_traced := ⟨rfl⟩
theorem V_P_traced_0 : Var C_P_traced 0 "book" := var_of (by decide +kernel)
theorem V_P_traced_1 : Var C_P_traced 1 "habits" := var_of (by decide +kernel)
theorem V_P_traced_2 : Var C_P_traced 2 "person" := var_of (by decide +kernel)
theorem V_P_traced_3 : Var C_P_traced 3 "tale" := var_of (by decide +kernel)
theorem V_P_traced_4 : Var C_P_traced 4 "hour" := var_of (by decide +kernel)
theorem V_P_traced_5 : Var C_P_traced 5 "known" := var_of (by decide +kernel)
theorem V_P_traced_6 : Var C_P_traced 6 "limits" := var_of (by decide +kernel)
theorem V_P_traced_7 : Var C_P_traced 7 "found" := var_of (by decide +kernel)
theorem V_P_traced_8 : Var C_P_traced 8 "step" := var_of (by decide +kernel)
theorem V_P_traced_9 : Var C_P_traced 9 "own" := var_of (by decide +kernel)
theorem V_P_traced_10 : Var C_P_traced 10 "told" := var_of (by decide +kernel)
theorem V_P_traced_11 : Var C_P_traced 11 "version" := var_of (by decide +kernel)
theorem S_P_traced_5 : Loca C_P_traced 5 "known" := loc_of (by decide +kernel)
theorem S_P_traced_6 : Loca C_P_traced 6 "limits" := loc_of (by decide +kernel)
theorem S_P_traced_7 : Loca C_P_traced 7 "found" := loc_of (by decide +kernel)
theorem S_P_traced_8 : Loca C_P_traced 8 "step" := loc_of (by decide +kernel)
theorem S_P_traced_9 : Loca C_P_traced 9 "own" := loc_of (by decide +kernel)
theorem S_P_traced_10 : Loca C_P_traced 10 "told" := loc_of (by decide +kernel)
theorem S_P_traced_11 : Loca C_P_traced 11 "version" := loc_of (by decide +kernel)
theorem G_P_traced_earliest_versions : Glo C_P_traced "earliest_versions" := glo_of (by decide +kernel)
theorem G_P_traced_heard_by : Glo C_P_traced "heard_by" := glo_of (by decide +kernel)
theorem G_P_traced_max : Glo C_P_traced "max" := glo_of (by decide +kernel)
theorem G_P_traced_reversed : Glo C_P_traced "reversed" := glo_of (by decide +kernel)
theorem G_P_traced_sorted : Glo C_P_traced "sorted" := glo_of (by decide +kernel)
theorem G_P_traced_timed_tellings : Glo C_P_traced "timed_tellings" := glo_of (by decide +kernel)
theorem b_P_traced {G : Cfg} (A : All G) (O : Own) (a_book : BookV) (a_habits : (List (Str × (List (Str × Str))))) (a_person : Str) (a_tale : (List Str)) (a_hour : Int) (hpre : VerOk a_book a_habits ∧ LamOk G "earliest_versions" O) : SS G C_P_traced (defBody (top 21)) (frame0 N_P_traced [(dBook G) a_book, (dDc kS (dLo G.K (dT2 G.K dS dS))) a_habits, dS a_person, (dVt G.K dS) a_tale, dI a_hour]) O (fnN (fun r => oLst (List.map (dT4 G.K dI dS dS (dVt G.K dS)) r)) O) (.rt (m_P_traced a_book a_habits a_person a_tale a_hour)) := by
  unfold m_P_traced
  have hbk := hpre.1.bk
  have htl := timed_len hbk
  refine ss_asg (f := (dDn G knST (dT2 G.K dS (dVt G.K dS)) dI)) .rt S_P_traced_5 (fun _ => rfl) (e_call (k_P_earliest_versions A) (by decide) G_P_traced_earliest_versions ⟨a_book, a_habits, (by trivial), rfl, rfl⟩ (a_cons (e_var V_P_traced_0 rfl) (a_cons (e_var V_P_traced_1 rfl) a_nil (fun _ => rfl)) (fun _ => rfl)) (fun _ => rfl)) ?_
  intro known_1 hknown_1
  have hkn : known_1.length ≤ 400 ∧ ∀ q ∈ known_1, q.1.2.length ≤ 100 := by rw [hknown_1]; exact ver_few hpre.1
  have hkl := hkn.1
  refine ss_fr70 (Γ1 := [some ((dBook G) a_book), some ((dDc kS (dLo G.K (dT2 G.K dS dS))) a_habits), some (dS a_person), some ((dVt G.K dS) a_tale), some (dI a_hour), some ((dDn G knST (dT2 G.K dS (dVt G.K dS)) dI) known_1), none, none, none, none, none, none]) (by exact ⟨.inr rfl, .inr rfl, .inr rfl, .inr rfl, .inr rfl, .inr rfl, .inl rfl, .inl rfl, .inl rfl, .inl rfl, .inl rfl, .inl rfl, trivial⟩) ?_
  refine ss_asgT S_P_traced_6 (fun _ => rfl) (et_dn1 (kn := knST) (dk := (dT2 G.K dS (dVt G.K dS))) (f := dI) (key := (a_person, a_tale)) (y := a_hour) nk_ST (fun _ => (e_tup (a_cons (e_var V_P_traced_2 rfl) (a_cons (e_var V_P_traced_3 rfl) a_nil (fun _ => rfl)) (fun _ => rfl)) (Nat.le_of_ble_eq_true rfl))) (fun _ => (e_var V_P_traced_4 rfl))) ?_
  intro p_limits_2
  refine ss_new (od := oLst (([] : List (Int × Str × Str × (List Str))).map (dT4 G.K dI dS dS (dVt G.K dS)))) S_P_traced_7 (fun _ => rfl) (en_list (ds := []) a_nil (Nat.le_of_ble_eq_true rfl)) ?_
  intro p_found_3
  refine ss_fr70 (Γ1 := [some ((dBook G) a_book), some ((dDc kS (dLo G.K (dT2 G.K dS dS))) a_habits), some (dS a_person), some ((dVt G.K dS) a_tale), some (dI a_hour), some ((dDn G knST (dT2 G.K dS (dVt G.K dS)) dI) known_1), some (dP p_limits_2), some (dP p_found_3), none, none, none, none]) (by exact ⟨.inr rfl, .inr rfl, .inr rfl, .inr rfl, .inr rfl, .inr rfl, .inr rfl, .inr rfl, .inl rfl, .inl rfl, .inl rfl, .inl rfl, trivial⟩) ?_
  refine ss_fold (Γ := [some ((dBook G) a_book), some ((dDc kS (dLo G.K (dT2 G.K dS dS))) a_habits), some (dS a_person), some ((dVt G.K dS) a_tale), some (dI a_hour), some ((dDn G knST (dT2 G.K dS (dVt G.K dS)) dI) known_1), some (dP p_limits_2), some (dP p_found_3), none, none, none, none]) (df := (dT4 G.K dI dI dS dS)) (s0 := ([((a_person, a_tale), a_hour)], ([] : List (Int × Str × Str × (List Str))))) .rt (fun s_5 : (List ((Str × (List Str)) × Int)) × (List (Int × Str × Str × (List Str))) => [some ((dBook G) a_book), some ((dDc kS (dLo G.K (dT2 G.K dS dS))) a_habits), some (dS a_person), some ((dVt G.K dS) a_tale), some (dI a_hour), some ((dDn G knST (dT2 G.K dS (dVt G.K dS)) dI) known_1), some (dP p_limits_2), some (dP p_found_3), none, none, none, none]) (fun (s_5 : (List ((Str × (List Str)) × Int)) × (List (Int × Str × Str × (List Str)))) (x_6 : (Int × Int × Str × Str)) => ([some ((dBook G) a_book), some ((dDc kS (dLo G.K (dT2 G.K dS dS))) a_habits), some (dS a_person), some ((dVt G.K dS) a_tale), some (dI a_hour), some ((dDn G knST (dT2 G.K dS (dVt G.K dS)) dI) known_1), some (dP p_limits_2), some (dP p_found_3), none, none, none, none]).set 8 (some ((dT4 G.K dI dI dS dS) x_6))) (fun s_5 : (List ((Str × (List Str)) × Int)) × (List (Int × Str × Str × (List Str))) => ((p_found_3, oLst (s_5.2.map (dT4 G.K dI dS dS (dVt G.K dS)))) :: (p_limits_2, oDn G knST (dT2 G.K dS (dVt G.K dS)) dI p_limits_2 s_5.1) :: O)) (ei_revM (f := (dT4 G.K dI dI dS dS)) (xs := (m_P_timed_tellings a_book)) G_P_traced_reversed A.b_reversed (e_call (k_P_timed_tellings A) (by decide) G_P_traced_timed_tellings ⟨a_book, (by trivial), rfl, rfl⟩ (a_cons (e_var V_P_traced_0 rfl) a_nil (fun _ => rfl)) (fun _ => rfl)) (fun _ => rfl)) (by exact ⟨.inr rfl, .inr rfl, .inr rfl, .inr rfl, .inr rfl, .inr rfl, .inr rfl, .inr rfl, .inl rfl, .inl rfl, .inl rfl, .inl rfl, trivial⟩) rfl (fun _ => trivial) (fun s_5 x_6 => (tj_name S_P_traced_8)) ?_ ?_ (fun _ _ => rfl)
  ·
    intro s_5 x_6 pre_7 post_8 hs_9 hf_10
    have hm_11 : x_6 ∈ (m_P_timed_tellings a_book).reverse := by rw [hs_9]; simp
    have hpl_12 : pre_7.length < ((m_P_timed_tellings a_book).reverse).length := by rw [hs_9, List.length_append, List.length_cons]; omega
    have hln := tr_len hkl a_habits ([((a_person, a_tale), a_hour)], []) pre_7
    have hle : s_5 = pre_7.foldl (trOut known_1 a_habits) ([((a_person, a_tale), a_hour)], []) := hf_10
    rw [← hle] at hln
    have hl1 : s_5.1.length ≤ 1 + 400 * pre_7.length := hln.1
    have hl2 : s_5.2.length ≤ 0 + 400 * pre_7.length := hln.2
    have hpr : pre_7.length ≤ 240 := by rw [List.length_reverse] at hpl_12; omega
    have hhl : (m_P_heard_by_at_f known_1 a_habits x_6).length ≤ 400 := Nat.le_trans (heard_len _ _ _) hkl
    refine ss_fold (Γ := [some ((dBook G) a_book), some ((dDc kS (dLo G.K (dT2 G.K dS dS))) a_habits), some (dS a_person), some ((dVt G.K dS) a_tale), some (dI a_hour), some ((dDn G knST (dT2 G.K dS (dVt G.K dS)) dI) known_1), some (dP p_limits_2), some (dP p_found_3), some ((dT4 G.K dI dI dS dS) x_6), none, none, none]) (df := (dT2 G.K (dVt G.K dS) (dVt G.K dS))) (s0 := (s_5.1, s_5.2)) .nx (fun s_13 : (List ((Str × (List Str)) × Int)) × (List (Int × Str × Str × (List Str))) => [some ((dBook G) a_book), some ((dDc kS (dLo G.K (dT2 G.K dS dS))) a_habits), some (dS a_person), some ((dVt G.K dS) a_tale), some (dI a_hour), some ((dDn G knST (dT2 G.K dS (dVt G.K dS)) dI) known_1), some (dP p_limits_2), some (dP p_found_3), some ((dT4 G.K dI dI dS dS) x_6), none, none, none]) (fun (s_13 : (List ((Str × (List Str)) × Int)) × (List (Int × Str × Str × (List Str)))) (x_14 : ((List Str) × (List Str))) => (([some ((dBook G) a_book), some ((dDc kS (dLo G.K (dT2 G.K dS dS))) a_habits), some (dS a_person), some ((dVt G.K dS) a_tale), some (dI a_hour), some ((dDn G knST (dT2 G.K dS (dVt G.K dS)) dI) known_1), some (dP p_limits_2), some (dP p_found_3), some ((dT4 G.K dI dI dS dS) x_6), none, none, none]).set 9 (some ((dVt G.K dS) x_14.1))).set 10 (some ((dVt G.K dS) x_14.2))) (fun s_13 : (List ((Str × (List Str)) × Int)) × (List (Int × Str × Str × (List Str))) => ((p_found_3, oLst (s_13.2.map (dT4 G.K dI dS dS (dVt G.K dS)))) :: (p_limits_2, oDn G knST (dT2 G.K dS (dVt G.K dS)) dI p_limits_2 s_13.1) :: O)) (ei_list (e_call (k_P_heard_by_at_f A) (by decide) G_P_traced_heard_by ⟨known_1, a_habits, x_6, (by trivial), rfl, rfl⟩ (a_cons (e_var V_P_traced_5 rfl) (a_cons (e_var V_P_traced_1 rfl) (a_cons (e_var V_P_traced_8 rfl) a_nil (fun _ => rfl)) (fun _ => rfl)) (fun _ => rfl)) (fun _ => rfl))) (by exact ⟨.inr rfl, .inr rfl, .inr rfl, .inr rfl, .inr rfl, .inr rfl, .inr rfl, .inr rfl, .inr rfl, .inl rfl, .inl rfl, .inl rfl, trivial⟩) rfl (fun _ => trivial) (fun s_13 x_14 => (tj_tup (tjs_cons (tj_name S_P_traced_9) (tjs_cons (tj_name S_P_traced_10) tjs_nil (fun _ => rfl)) (fun _ => rfl)) (fun _ => rfl) (fun _ => rfl))) ?_ ?_ (fun _ _ => rfl)
    ·
      intro s_13 x_14 pre_15 post_16 hs_17 hf_18
      have hm_19 : x_14 ∈ (m_P_heard_by_at_f known_1 a_habits x_6) := by rw [hs_17]; simp
      have hpl_20 : pre_15.length < ((m_P_heard_by_at_f known_1 a_habits x_6)).length := by rw [hs_17, List.length_append, List.length_cons]; omega
      have hgrow_21 : (s_13.1).length ≤ (s_5.1).length + 1 * pre_15.length := by
        rw [hf_18]
        refine foldl_meas (m := fun s_13 : (List ((Str × (List Str)) × Int)) × (List (Int × Str × Str × (List Str))) => (s_13.1).length) ?_ (s0 := (s_5.1, s_5.2))
        intro _ _
        first | exact app_le | exact putIf_len | (simp only [lt]; exact dPut_len) | (simp only [lt]; split <;> first | exact dPut_len | omega) | ((try simp only [lt]); (repeat' split) <;> first | exact dPut_len | exact Nat.le_succ _) | (simp only [lt, slen_app, signAt_len, List.length_append, List.length_cons, List.length_nil]; omega) | ((try simp only [lt]); (repeat' split) <;> ((try simp only [lt, slen_app, signAt_len, List.length_append, List.length_cons, List.length_nil]); omega))
      have hgrow_22 : (s_13.2).length ≤ (s_5.2).length + 1 * pre_15.length := by
        rw [hf_18]
        refine foldl_meas (m := fun s_13 : (List ((Str × (List Str)) × Int)) × (List (Int × Str × Str × (List Str))) => (s_13.2).length) ?_ (s0 := (s_5.1, s_5.2))
        intro _ _
        first | exact app_le | exact putIf_len | (simp only [lt]; exact dPut_len) | (simp only [lt]; split <;> first | exact dPut_len | omega) | ((try simp only [lt]); (repeat' split) <;> first | exact dPut_len | exact Nat.le_succ _) | (simp only [lt, slen_app, signAt_len, List.length_append, List.length_cons, List.length_nil]; omega) | ((try simp only [lt]); (repeat' split) <;> ((try simp only [lt, slen_app, signAt_len, List.length_append, List.length_cons, List.length_nil]); omega))
      refine ss_if .nx (t_cmp c_ge (e_get2N (kn := knST) (dk := (dT2 G.K dS (dVt G.K dS))) (f := dI) (kvs := s_13.1) (y := (-(1 : Int))) nk_ST (da_own (n := 1) rfl) (e_var V_P_traced_6 rfl) (e_tup (a_cons (e_ixT (i := (3 : Int)) rfl (e_var V_P_traced_8 rfl) e_int (fun _ _ => rfl)) (a_cons (e_var V_P_traced_10 rfl) a_nil (fun _ => rfl)) (fun _ => rfl)) (Nat.le_of_ble_eq_true rfl)) (e_neg e_int) (fun _ => ⟨rfl, rfl, rfl, rfl⟩)) (e_ixT (i := (0 : Int)) rfl (e_var V_P_traced_8 rfl) e_int (fun _ _ => rfl)) rfl) (fun hc_23 => ?_) (fun hc_23 => ?_)
      ·
        refine ss_asg (f := (dT2 G.K dS (dVt G.K dS))) .nx S_P_traced_11 (fun _ => rfl) (e_tup (a_cons (e_ixT (i := (2 : Int)) rfl (e_var V_P_traced_8 rfl) e_int (fun _ _ => rfl)) (a_cons (e_var V_P_traced_9 rfl) a_nil (fun _ => rfl)) (fun _ => rfl)) (Nat.le_of_ble_eq_true rfl)) ?_
        intro version_24 hversion_24
        refine ss_putN (f := dI) (kvs := s_13.1) (y := (imax ((dFind s_13.1 version_24).getD (-(1 : Int))) (x_6.1 - (1 : Int)))) (n := 1) .nx nk_ST rfl (e_var V_P_traced_6 rfl) (e_var V_P_traced_11 rfl) (e_callB k_max2 G_P_traced_max A.b_max bt_max (a_cons (e_get2N (kn := knST) (dk := (dT2 G.K dS (dVt G.K dS))) (f := dI) (kvs := s_13.1) (y := (-(1 : Int))) nk_ST (da_own (n := 1) rfl) (e_var V_P_traced_6 rfl) (e_var V_P_traced_11 rfl) (e_neg e_int) (fun _ => ⟨rfl, rfl, rfl, rfl⟩)) (a_cons (e_sub (e_ixT (i := (0 : Int)) rfl (e_var V_P_traced_8 rfl) e_int (fun _ _ => rfl)) e_int) a_nil (fun _ => rfl)) (fun _ => rfl)) (fun _ => rfl)) (by trivial) (fun _ => rfl) ?_
        intro limits_25 hlimits_25
        refine ss_app (f := (dT4 G.K dI dS dS (dVt G.K dS))) (xs := s_13.2) (y := (x_6.2.1, x_6.2.2.1, x_6.2.2.2, x_14.1)) (n := 0) .nx rfl (e_var V_P_traced_7 rfl) (e_tup (a_cons (e_ixT (i := (1 : Int)) rfl (e_var V_P_traced_8 rfl) e_int (fun _ _ => rfl)) (a_cons (e_ixT (i := (2 : Int)) rfl (e_var V_P_traced_8 rfl) e_int (fun _ _ => rfl)) (a_cons (e_ixT (i := (3 : Int)) rfl (e_var V_P_traced_8 rfl) e_int (fun _ _ => rfl)) (a_cons (e_var V_P_traced_9 rfl) a_nil (fun _ => rfl)) (fun _ => rfl)) (fun _ => rfl)) (fun _ => rfl)) (Nat.le_of_ble_eq_true rfl)) (by trivial) (fun _ => rfl) rfl (fun _ => rfl) ?_
        intro found_26 hfound_26
        have hfound_26_l : found_26.length = (s_13.2).length + 1 := by rw [hfound_26, List.length_append]; rfl
        exact ss_end (hold_end (by exact ⟨.inr rfl, .inr rfl, .inr rfl, .inr rfl, .inr rfl, .inr rfl, .inr rfl, .inr rfl, .inr rfl, .inl rfl, .inl rfl, .inl rfl, trivial⟩))
      ·
        exact ss_end (hold_end (by exact ⟨.inr rfl, .inr rfl, .inr rfl, .inr rfl, .inr rfl, .inr rfl, .inr rfl, .inr rfl, .inr rfl, .inl rfl, .inl rfl, .inl rfl, trivial⟩))
    intro s_13 he_L1
    have hgrow_29 : (s_13.1).length ≤ (s_5.1).length + 1 * ((m_P_heard_by_at_f known_1 a_habits x_6)).length := by
      rw [he_L1]
      refine foldl_meas (m := fun s_13 : (List ((Str × (List Str)) × Int)) × (List (Int × Str × Str × (List Str))) => (s_13.1).length) ?_ (s0 := (s_5.1, s_5.2))
      intro _ _
      first | exact app_le | exact putIf_len | (simp only [lt]; exact dPut_len) | (simp only [lt]; split <;> first | exact dPut_len | omega) | ((try simp only [lt]); (repeat' split) <;> first | exact dPut_len | exact Nat.le_succ _) | (simp only [lt, slen_app, signAt_len, List.length_append, List.length_cons, List.length_nil]; omega) | ((try simp only [lt]); (repeat' split) <;> ((try simp only [lt, slen_app, signAt_len, List.length_append, List.length_cons, List.length_nil]); omega))
    have hgrow_30 : (s_13.2).length ≤ (s_5.2).length + 1 * ((m_P_heard_by_at_f known_1 a_habits x_6)).length := by
      rw [he_L1]
      refine foldl_meas (m := fun s_13 : (List ((Str × (List Str)) × Int)) × (List (Int × Str × Str × (List Str))) => (s_13.2).length) ?_ (s0 := (s_5.1, s_5.2))
      intro _ _
      first | exact app_le | exact putIf_len | (simp only [lt]; exact dPut_len) | (simp only [lt]; split <;> first | exact dPut_len | omega) | ((try simp only [lt]); (repeat' split) <;> first | exact dPut_len | exact Nat.le_succ _) | (simp only [lt, slen_app, signAt_len, List.length_append, List.length_cons, List.length_nil]; omega) | ((try simp only [lt]); (repeat' split) <;> ((try simp only [lt, slen_app, signAt_len, List.length_append, List.length_cons, List.length_nil]); omega))
    exact ss_end (hold_end (by exact ⟨.inr rfl, .inr rfl, .inr rfl, .inr rfl, .inr rfl, .inr rfl, .inr rfl, .inr rfl, .inl rfl, .inl rfl, .inl rfl, .inl rfl, trivial⟩))
  intro s_5 he_L0
  have hlo : s_5.2.length ≤ 96000 := by
    have hz := (tr_len hkl a_habits ([((a_person, a_tale), a_hour)], []) (m_P_timed_tellings a_book).reverse).2
    rw [he_L0]
    rw [List.length_reverse] at hz
    exact Nat.le_trans hz (by show 0 + 400 * _ ≤ _; omega)
  refine ss_freeze (G := G) (i := 7) rfl ?_
  have := @srt_len _ (fun x : (Int × Str × Str × (List Str)) => PyData.tuple [PyData.int x.1, PyData.str x.2.1, PyData.str x.2.2.1, (fun xs => PyData.tuple (xs.map PyData.str)) x.2.2.2]) s_5.2
  exact ss_retN (en_callB (k_sortL (dat_t4 (Dat.up dat_int (m := 1) (by decide)) (Dat.up dat_str (m := 1) (by decide)) (Dat.up dat_str (m := 1) (by decide)) (dat_vtup dat_str)) ⟨fun a b => by simp [PySem.W.alike, PySem.W.alikeAll, alike_wy, alike_strs], .inl fun a => ⟨_, _, rfl⟩⟩ (by decide) (by trivial)) G_P_traced_sorted A.b_sorted bt_sorted (a_cons (e_var V_P_traced_7 rfl) a_nil (fun _ => rfl)) (fun _ => rfl)) (fun _ _ _ h => (rk_dropN h))
theorem k_P_traced {G : Cfg} (A : All G) : Callee G 7 "traced" (sp_P_traced G) := by
  refine A.d_P_traced.callee (N := N_P_traced) (ps := ["book", "habits", "person", "tale", "hour"]) (scope_of rfl rfl rfl (by decide +kernel)) (fun ds O rk h => ?_) (fun _ _ _ _ _ _ us hl => match us, hl with | [_, _, _, _, _], _ => rfl) (fun ds O rk h => ?_)
  · obtain ⟨a_book, a_habits, a_person, a_tale, a_hour, hp, rfl, rfl⟩ := h; rfl
  · obtain ⟨a_book, a_habits, a_person, a_tale, a_hour, hp, rfl, rfl⟩ := h; exact ⟨_, _, _, _, b_P_traced A O a_book a_habits a_person a_tale a_hour hp, rfl⟩
def N_L_floor : List Str := ["_law_sayings", "_law_person", "_law_floor_here", "_law_one"]
def C_L_floor : Sc := ⟨0, N_L_floor, defScope (top 52), true, true⟩
instance : Calm C_L_floor := ⟨rfl⟩
theorem V_L_floor_0 : Var C_L_floor 0 "_law_sayings" := var_of (by decide +kernel)
theorem V_L_floor_1 : Var C_L_floor 1 "_law_person" := var_of (by decide +kernel)
theorem V_L_floor_2 : Var C_L_floor 2 "_law_floor_here" := var_of (by decide +kernel)
theorem V_L_floor_3 : Var C_L_floor 3 "_law_one" := var_of (by decide +kernel)
theorem S_L_floor_2 : Loca C_L_floor 2 "_law_floor_here" := loc_of (by decide +kernel)
theorem S_L_floor_3 : Loca C_L_floor 3 "_law_one" := loc_of (by decide +kernel)
theorem G_L_floor_max : Glo C_L_floor "max" := glo_of (by decide +kernel)
theorem b_L_floor {G : Cfg} (A : All G) (O : Own) (a_sayings : (List Sy)) (a_person : Str) : SS G C_L_floor (defBody (top 52)) (frame0 N_L_floor [(dLo G.K (dSy G.K)) a_sayings, dS a_person]) O (fnV (dO dI) O) (.rt (m_L_floor a_sayings a_person)) := by
  unfold m_L_floor
  refine ss_asg (f := dI) .rt S_L_floor_2 (fun _ => rfl) (e_neg e_int) ?_
  intro floor_here_1 hfloor_here_1
  refine ss_fr70 (Γ1 := [some ((dLo G.K (dSy G.K)) a_sayings), some (dS a_person), some (dI floor_here_1), none]) (by exact ⟨.inr rfl, .inr rfl, .inr rfl, .inl rfl, trivial⟩) ?_
  refine ss_loop (Γ := [some ((dLo G.K (dSy G.K)) a_sayings), some (dS a_person), some (dI floor_here_1), none]) (df := (dSy G.K)) (s0 := floor_here_1) (fun s_2 : Int => [some ((dLo G.K (dSy G.K)) a_sayings), some (dS a_person), some (dI s_2), none]) (fun (s_2 : Int) (x_3 : Sy) => ([some ((dLo G.K (dSy G.K)) a_sayings), some (dS a_person), some (dI s_2), none]).set 3 (some ((dSy G.K) x_3))) (fun s_2 : Int => O) (ei_list (e_var V_L_floor_0 rfl)) (by exact ⟨.inr rfl, .inr rfl, .inr rfl, .inl rfl, trivial⟩) rfl (fun _ => trivial) (fun s_2 x_3 => (tj_name S_L_floor_3)) ?_ ?_ (fun _ _ => rfl)
  ·
    intro s_2 x_3 pre_4 post_5 hs_6 hf_7
    have hm_8 : x_3 ∈ a_sayings := by rw [hs_6]; simp
    have hpl_9 : pre_4.length < (a_sayings).length := by rw [hs_6, List.length_append, List.length_cons]; omega
    refine ss_if Ret.out (t_w (w_and (t_cmp c_eqS (e_sy0 (e_var V_L_floor_3 rfl)) e_str rfl) (fun hb_10 => (w_and1 (t_cmp c_eqS (e_sy1 (e_var V_L_floor_3 rfl)) (e_var V_L_floor_1 rfl) rfl))))) (fun hc_12 => ?_) (fun hc_12 => ?_)
    ·
      refine ss_when Ret.out (t_cmp (c_isO (f := dI) (o := x_3.ho) notN_I) (e_sy2u (andL hc_12) (e_var V_L_floor_3 rfl)) e_none rfl) (fun _ => nofun) (fun hc_13 => ?_) (fun hc_13 => ?_)
      ·
        exact ss_ret e_none (fun _ _ _ h => h)
      refine ss_asg (f := dI) Ret.out S_L_floor_2 (fun _ => rfl) (e_callB k_max2 G_L_floor_max A.b_max bt_max (a_cons (e_var V_L_floor_2 rfl) (a_cons (e_eq (e_sy2u (andL hc_12) (e_var V_L_floor_3 rfl)) (o_some hc_13)) a_nil (fun _ => rfl)) (fun _ => rfl)) (fun _ => rfl)) ?_
      intro floor_here_14 hfloor_here_14
      exact ss_end (hold_end (by exact ⟨.inr rfl, .inr rfl, .inr rfl, .inl rfl, trivial⟩))
    ·
      exact ss_end (hold_end (by exact ⟨.inr rfl, .inr rfl, .inr rfl, .inl rfl, trivial⟩))
  intro s_2 he_L0
  exact ss_ret (e_var V_L_floor_2 rfl) (fun _ _ _ h => h)
theorem k_L_floor {G : Cfg} (A : All G) : Callee G 1 "_law_floor" (sp_L_floor G) := by
  refine A.d_L_floor.callee (N := N_L_floor) (ps := ["_law_sayings", "_law_person"]) (scope_of rfl rfl rfl (by decide +kernel)) (fun ds O rk h => ?_) (fun _ _ _ _ _ _ us hl => match us, hl with | [_, _], _ => rfl) (fun ds O rk h => ?_)
  · obtain ⟨a_sayings, a_person, hp, rfl, rfl⟩ := h; rfl
  · obtain ⟨a_sayings, a_person, hp, rfl, rfl⟩ := h; exact ⟨_, _, _, _, b_L_floor A O a_sayings a_person, rfl⟩
def N_L_seen : List Str := ["_law_sights_here", "_law_sayings", "_law_found", "_law_person", "_law_hour_here", "_law_tale", "_law_floor_here"]
def C_L_seen : Sc := ⟨1, N_L_seen, defScope (top 55), true, true⟩
instance : Calm C_L_seen := ⟨rfl⟩
theorem V_L_seen_0 : Var C_L_seen 0 "_law_sights_here" := var_of (by decide +kernel)
theorem V_L_seen_1 : Var C_L_seen 1 "_law_sayings" := var_of (by decide +kernel)
theorem V_L_seen_2 : Var C_L_seen 2 "_law_found" := var_of (by decide +kernel)
theorem V_L_seen_3 : Var C_L_seen 3 "_law_person" := var_of (by decide +kernel)
theorem V_L_seen_4 : Var C_L_seen 4 "_law_hour_here" := var_of (by decide +kernel)
theorem V_L_seen_5 : Var C_L_seen 5 "_law_tale" := var_of (by decide +kernel)
theorem V_L_seen_6 : Var C_L_seen 6 "_law_floor_here" := var_of (by decide +kernel)
theorem S_L_seen_2 : Loca C_L_seen 2 "_law_found" := loc_of (by decide +kernel)
theorem S_L_seen_3 : Loca C_L_seen 3 "_law_person" := loc_of (by decide +kernel)
theorem S_L_seen_4 : Loca C_L_seen 4 "_law_hour_here" := loc_of (by decide +kernel)
theorem S_L_seen_5 : Loca C_L_seen 5 "_law_tale" := loc_of (by decide +kernel)
theorem S_L_seen_6 : Loca C_L_seen 6 "_law_floor_here" := loc_of (by decide +kernel)
theorem G_L_seen__law_floor : Glo C_L_seen "_law_floor" := glo_of (by decide +kernel)
theorem b_L_seen {G : Cfg} (A : All G) (O : Own) (a_sights_here : (List (Str × Int × (List Str)))) (a_sayings : (List Sy)) (hpre : a_sights_here.length ≤ 100) : SS G C_L_seen (defBody (top 55)) (frame0 N_L_seen [(dLo G.K (dT3 G.K dS dI (dVt G.K dS))) a_sights_here, (dLo G.K (dSy G.K)) a_sayings]) O (fnV (dLo G.K (dT3 G.K dS dI (dVt G.K dS))) O) (.rt (m_L_seen a_sights_here a_sayings)) := by
  unfold m_L_seen
  have hn0 : ([] : List (Str × Int × List Str)).length = 0 := rfl
  refine ss_new (od := oLst (([] : List (Str × Int × (List Str))).map (dT3 G.K dS dI (dVt G.K dS)))) S_L_seen_2 (fun _ => rfl) (en_list (ds := []) a_nil (Nat.le_of_ble_eq_true rfl)) ?_
  intro p_found_1
  refine ss_fr70 (Γ1 := [some ((dLo G.K (dT3 G.K dS dI (dVt G.K dS))) a_sights_here), some ((dLo G.K (dSy G.K)) a_sayings), some (dP p_found_1), none, none, none, none]) (by exact ⟨.inr rfl, .inr rfl, .inr rfl, .inl rfl, .inl rfl, .inl rfl, .inl rfl, trivial⟩) ?_
  refine ss_fold (Γ := [some ((dLo G.K (dT3 G.K dS dI (dVt G.K dS))) a_sights_here), some ((dLo G.K (dSy G.K)) a_sayings), some (dP p_found_1), none, none, none, none]) (df := (dT3 G.K dS dI (dVt G.K dS))) (s0 := ([] : List (Str × Int × (List Str)))) .rt (fun s_3 : (List (Str × Int × (List Str))) => [some ((dLo G.K (dT3 G.K dS dI (dVt G.K dS))) a_sights_here), some ((dLo G.K (dSy G.K)) a_sayings), some (dP p_found_1), none, none, none, none]) (fun (s_3 : (List (Str × Int × (List Str)))) (x_4 : (Str × Int × (List Str))) => ((([some ((dLo G.K (dT3 G.K dS dI (dVt G.K dS))) a_sights_here), some ((dLo G.K (dSy G.K)) a_sayings), some (dP p_found_1), none, none, none, none]).set 3 (some (dS x_4.1))).set 4 (some (dI x_4.2.1))).set 5 (some ((dVt G.K dS) x_4.2.2))) (fun s_3 : (List (Str × Int × (List Str))) => ((p_found_1, oLst (s_3.map (dT3 G.K dS dI (dVt G.K dS)))) :: O)) (ei_list (e_var V_L_seen_0 rfl)) (by exact ⟨.inr rfl, .inr rfl, .inr rfl, .inl rfl, .inl rfl, .inl rfl, .inl rfl, trivial⟩) rfl (fun _ => trivial) (fun s_3 x_4 => (tj_tup (tjs_cons (tj_name S_L_seen_3) (tjs_cons (tj_name S_L_seen_4) (tjs_cons (tj_name S_L_seen_5) tjs_nil (fun _ => rfl)) (fun _ => rfl)) (fun _ => rfl)) (fun _ => rfl) (fun _ => rfl))) ?_ ?_ (fun _ _ => rfl)
  ·
    intro s_3 x_4 pre_5 post_6 hs_7 hf_8
    have hm_9 : x_4 ∈ a_sights_here := by rw [hs_7]; simp
    have hpl_10 : pre_5.length < (a_sights_here).length := by rw [hs_7, List.length_append, List.length_cons]; omega
    have hgrow_11 : (s_3).length ≤ (([] : List (Str × Int × (List Str)))).length + 1 * pre_5.length := by
      rw [hf_8]
      refine foldl_meas (m := fun s_3 : (List (Str × Int × (List Str))) => (s_3).length) ?_ (s0 := ([] : List (Str × Int × (List Str))))
      intro _ _
      first | exact app_le | exact putIf_len | (simp only [lt]; exact dPut_len) | (simp only [lt]; split <;> first | exact dPut_len | omega) | ((try simp only [lt]); (repeat' split) <;> first | exact dPut_len | exact Nat.le_succ _) | (simp only [lt, slen_app, signAt_len, List.length_append, List.length_cons, List.length_nil]; omega) | ((try simp only [lt]); (repeat' split) <;> ((try simp only [lt, slen_app, signAt_len, List.length_append, List.length_cons, List.length_nil]); omega))
    refine ss_asg (f := (dO dI)) .nx S_L_seen_6 (fun _ => rfl) (e_call (k_L_floor A) (by decide) G_L_seen__law_floor ⟨a_sayings, x_4.1, True.intro, rfl, rfl⟩ (a_cons (e_var V_L_seen_1 rfl) (a_cons (e_var V_L_seen_3 rfl) a_nil (fun _ => rfl)) (fun _ => rfl)) (fun _ => rfl)) ?_
    intro floor_here_12 hfloor_here_12
    refine ss_if .nx (t_w (w_and (t_cmp (c_notO (f := dI) (o := floor_here_12) notN_I) (e_var V_L_seen_6 rfl) e_none rfl) (fun hb_13 => (w_and1 (t_cmp c_gt (e_var V_L_seen_4 rfl) (e_eq (e_var V_L_seen_6 rfl) (o_some (notT hb_13))) rfl))))) (fun hc_15 => ?_) (fun hc_15 => ?_)
    ·
      refine ss_app (f := (dT3 G.K dS dI (dVt G.K dS))) (xs := s_3) (y := (x_4.1, x_4.2.1, x_4.2.2)) (n := 0) .nx rfl (e_var V_L_seen_2 rfl) (e_tup (a_cons (e_var V_L_seen_3 rfl) (a_cons (e_var V_L_seen_4 rfl) (a_cons (e_var V_L_seen_5 rfl) a_nil (fun _ => rfl)) (fun _ => rfl)) (fun _ => rfl)) (Nat.le_of_ble_eq_true rfl)) (by trivial) (fun _ => rfl) rfl (fun _ => rfl) ?_
      intro found_16 hfound_16
      have hfound_16_l : found_16.length = (s_3).length + 1 := by rw [hfound_16, List.length_append]; rfl
      exact ss_end (hold_end (by exact ⟨.inr rfl, .inr rfl, .inr rfl, .inl rfl, .inl rfl, .inl rfl, .inl rfl, trivial⟩))
    ·
      exact ss_end (hold_end (by exact ⟨.inr rfl, .inr rfl, .inr rfl, .inl rfl, .inl rfl, .inl rfl, .inl rfl, trivial⟩))
  intro s_3 he_L0
  have hgrow_19 : (s_3).length ≤ (([] : List (Str × Int × (List Str)))).length + 1 * (a_sights_here).length := by
    rw [he_L0]
    refine foldl_meas (m := fun s_3 : (List (Str × Int × (List Str))) => (s_3).length) ?_ (s0 := ([] : List (Str × Int × (List Str))))
    intro _ _
    first | exact app_le | exact putIf_len | (simp only [lt]; exact dPut_len) | (simp only [lt]; split <;> first | exact dPut_len | omega) | ((try simp only [lt]); (repeat' split) <;> first | exact dPut_len | exact Nat.le_succ _) | (simp only [lt, slen_app, signAt_len, List.length_append, List.length_cons, List.length_nil]; omega) | ((try simp only [lt]); (repeat' split) <;> ((try simp only [lt, slen_app, signAt_len, List.length_append, List.length_cons, List.length_nil]); omega))
  refine ss_freeze (G := G) (i := 2) rfl ?_
  exact ss_ret (e_var V_L_seen_2 rfl) (fun _ _ _ h => h)
theorem k_L_seen {G : Cfg} (A : All G) : Callee G 2 "_law_seen" (sp_L_seen G) := by
  refine A.d_L_seen.callee (N := N_L_seen) (ps := ["_law_sights_here", "_law_sayings"]) (scope_of rfl rfl rfl (by decide +kernel)) (fun ds O rk h => ?_) (fun _ _ _ _ _ _ us hl => match us, hl with | [_, _], _ => rfl) (fun ds O rk h => ?_)
  · obtain ⟨a_sights_here, a_sayings, hp, rfl, rfl⟩ := h; rfl
  · obtain ⟨a_sights_here, a_sayings, hp, rfl, rfl⟩ := h; exact ⟨_, _, _, _, b_L_seen A O a_sights_here a_sayings hp, rfl⟩
def N_L_shut : List Str := ["_law_sayings", "_law_hour_here", "_law_teller", "_law_hearer", "_law_floor_here", "_law_one"]
def C_L_shut : Sc := ⟨1, N_L_shut, defScope (top 53), true, true⟩
instance : Calm C_L_shut := ⟨rfl⟩
theorem V_L_shut_0 : Var C_L_shut 0 "_law_sayings" := var_of (by decide +kernel)
theorem V_L_shut_1 : Var C_L_shut 1 "_law_hour_here" := var_of (by decide +kernel)
theorem V_L_shut_2 : Var C_L_shut 2 "_law_teller" := var_of (by decide +kernel)
theorem V_L_shut_3 : Var C_L_shut 3 "_law_hearer" := var_of (by decide +kernel)
theorem V_L_shut_4 : Var C_L_shut 4 "_law_floor_here" := var_of (by decide +kernel)
theorem V_L_shut_5 : Var C_L_shut 5 "_law_one" := var_of (by decide +kernel)
theorem S_L_shut_4 : Loca C_L_shut 4 "_law_floor_here" := loc_of (by decide +kernel)
theorem S_L_shut_5 : Loca C_L_shut 5 "_law_one" := loc_of (by decide +kernel)
theorem G_L_shut__law_floor : Glo C_L_shut "_law_floor" := glo_of (by decide +kernel)
theorem b_L_shut {G : Cfg} (A : All G) (O : Own) (a_sayings : (List Sy)) (a_hour_here : Int) (a_teller : Str) (a_hearer : Str) : SS G C_L_shut (defBody (top 53)) (frame0 N_L_shut [(dLo G.K (dSy G.K)) a_sayings, dI a_hour_here, dS a_teller, dS a_hearer]) O (fnV dB O) (.rt (m_L_shut a_sayings a_hour_here a_teller a_hearer)) := by
  unfold m_L_shut
  refine ss_fr70 (Γ1 := [some ((dLo G.K (dSy G.K)) a_sayings), some (dI a_hour_here), some (dS a_teller), some (dS a_hearer), none, none]) (by exact ⟨.inr rfl, .inr rfl, .inr rfl, .inr rfl, .inl rfl, .inl rfl, trivial⟩) ?_
  refine ss_asg (f := (dO dI)) .rt S_L_shut_4 (fun _ => rfl) (e_call (k_L_floor A) (by decide) G_L_shut__law_floor ⟨a_sayings, a_hearer, True.intro, rfl, rfl⟩ (a_cons (e_var V_L_shut_0 rfl) (a_cons (e_var V_L_shut_3 rfl) a_nil (fun _ => rfl)) (fun _ => rfl)) (fun _ => rfl)) ?_
  intro floor_here_1 hfloor_here_1
  refine ss_when .rt (t_w (w_or (t_cmp (c_isO (f := dI) (o := floor_here_1) notN_I) (e_var V_L_shut_4 rfl) e_none rfl) (fun hb_2 => (w_or1 (t_cmp c_le (e_var V_L_shut_1 rfl) (e_eq (e_var V_L_shut_4 rfl) (o_some hb_2)) rfl))))) (fun _ => nofun) (fun hc_4 => ?_) (fun hc_4 => ?_)
  ·
    exact ss_ret e_bool (fun _ _ _ h => h)
  refine ss_fr70 (Γ1 := [some ((dLo G.K (dSy G.K)) a_sayings), some (dI a_hour_here), some (dS a_teller), some (dS a_hearer), some ((dO dI) floor_here_1), none]) (by exact ⟨.inr rfl, .inr rfl, .inr rfl, .inr rfl, .inr rfl, .inl rfl, trivial⟩) ?_
  refine ss_loop (Γ := [some ((dLo G.K (dSy G.K)) a_sayings), some (dI a_hour_here), some (dS a_teller), some (dS a_hearer), some ((dO dI) floor_here_1), none]) (df := (dSy G.K)) (s0 := ()) (fun s_5 : Unit => [some ((dLo G.K (dSy G.K)) a_sayings), some (dI a_hour_here), some (dS a_teller), some (dS a_hearer), some ((dO dI) floor_here_1), none]) (fun (s_5 : Unit) (x_6 : Sy) => ([some ((dLo G.K (dSy G.K)) a_sayings), some (dI a_hour_here), some (dS a_teller), some (dS a_hearer), some ((dO dI) floor_here_1), none]).set 5 (some ((dSy G.K) x_6))) (fun s_5 : Unit => O) (ei_list (e_var V_L_shut_0 rfl)) (by exact ⟨.inr rfl, .inr rfl, .inr rfl, .inr rfl, .inr rfl, .inl rfl, trivial⟩) rfl (fun _ => trivial) (fun s_5 x_6 => (tj_name S_L_shut_5)) ?_ ?_ (fun _ _ => rfl)
  ·
    intro s_5 x_6 pre_7 post_8 hs_9 hf_10
    have hm_11 : x_6 ∈ a_sayings := by rw [hs_9]; simp
    have hpl_12 : pre_7.length < (a_sayings).length := by rw [hs_9, List.length_append, List.length_cons]; omega
    refine ss_when Ret.out (t_w (w_and (t_cmp c_eqS (e_sy0 (e_var V_L_shut_5 rfl)) e_str rfl) (fun hb_13 => (w_and (t_cmp c_eqS (e_sy1 (e_var V_L_shut_5 rfl)) (e_var V_L_shut_2 rfl) rfl) (fun hb_14 => (w_and1 (t_chain c_le (fun _ => c_le) (e_sy2s hb_13 (e_var V_L_shut_5 rfl)) (e_var V_L_shut_1 rfl) (fun _ => (e_sy3s hb_13 (e_var V_L_shut_5 rfl))) (fun X _ _ _ _ _ h1 h2 h3 h4 h5 => pt_chain h1 h2 h3 h4 h5 (by with_unfolding_all rfl))))))))) (fun _ => nofun) (fun hc_16 => ?_) (fun hc_16 => ?_)
    ·
      exact ss_ret e_bool (fun _ _ _ h => h)
    refine ss_if Ret.out (t_cmp (c_eqDat (f := (dSy G.K)) (a := x_6) (b := (Sy.barred a_hearer a_teller)) dat_sy (by decide)) (e_var V_L_shut_5 rfl) (e_tup (ds := (Sy.barred a_hearer a_teller).ds) (a_cons e_str (a_cons (e_var V_L_shut_3 rfl) (a_cons (e_var V_L_shut_2 rfl) a_nil (fun _ => rfl)) (fun _ => rfl)) (fun _ => rfl)) (Nat.le_of_ble_eq_true rfl)) rfl) (fun hc_17 => ?_) (fun hc_17 => ?_)
    ·
      exact ss_ret e_bool (fun _ _ _ h => h)
    ·
      exact ss_end (hold_end (by exact ⟨.inr rfl, .inr rfl, .inr rfl, .inr rfl, .inr rfl, .inl rfl, trivial⟩))
  intro s_5 he_L0
  exact ss_ret e_bool (fun _ _ _ h => h)
theorem k_L_shut {G : Cfg} (A : All G) : Callee G 2 "_law_shut" (sp_L_shut G) := by
  refine A.d_L_shut.callee (N := N_L_shut) (ps := ["_law_sayings", "_law_hour_here", "_law_teller", "_law_hearer"]) (scope_of rfl rfl rfl (by decide +kernel)) (fun ds O rk h => ?_) (fun _ _ _ _ _ _ us hl => match us, hl with | [_, _, _, _], _ => rfl) (fun ds O rk h => ?_)
  · obtain ⟨a_sayings, a_hour_here, a_teller, a_hearer, hp, rfl, rfl⟩ := h; rfl
  · obtain ⟨a_sayings, a_hour_here, a_teller, a_hearer, hp, rfl, rfl⟩ := h; exact ⟨_, _, _, _, b_L_shut A O a_sayings a_hour_here a_teller a_hearer, rfl⟩
def N_L_open : List Str := ["_law_talks_here", "_law_sayings", "_law_found", "_law_k", "_law_talk"]
def C_L_open : Sc := ⟨2, N_L_open, defScope (top 54), true, true⟩
instance : Calm C_L_open := ⟨rfl⟩
theorem V_L_open_0 : Var C_L_open 0 "_law_talks_here" := var_of (by decide +kernel)
theorem V_L_open_1 : Var C_L_open 1 "_law_sayings" := var_of (by decide +kernel)
theorem V_L_open_2 : Var C_L_open 2 "_law_found" := var_of (by decide +kernel)
theorem V_L_open_3 : Var C_L_open 3 "_law_k" := var_of (by decide +kernel)
theorem V_L_open_4 : Var C_L_open 4 "_law_talk" := var_of (by decide +kernel)
theorem S_L_open_2 : Loca C_L_open 2 "_law_found" := loc_of (by decide +kernel)
theorem S_L_open_3 : Loca C_L_open 3 "_law_k" := loc_of (by decide +kernel)
theorem S_L_open_4 : Loca C_L_open 4 "_law_talk" := loc_of (by decide +kernel)
theorem G_L_open__law_shut : Glo C_L_open "_law_shut" := glo_of (by decide +kernel)
theorem G_L_open_enumerate : Glo C_L_open "enumerate" := glo_of (by decide +kernel)
theorem b_L_open {G : Cfg} (A : All G) (O : Own) (a_talks_here : (List (Int × Str × Str × Str))) (a_sayings : (List Sy)) (hpre : a_talks_here.length ≤ 100) : SS G C_L_open (defBody (top 54)) (frame0 N_L_open [(dLo G.K (dT4 G.K dI dS dS dS)) a_talks_here, (dLo G.K (dSy G.K)) a_sayings]) O (fnV (dLo G.K (dT3 G.K dI dS dS)) O) (.rt (m_L_open a_talks_here a_sayings)) := by
  unfold m_L_open
  have hn0 : ([] : List (Int × Str × Str)).length = 0 := rfl
  refine ss_new (od := oLst (([] : List (Int × Str × Str)).map (dT3 G.K dI dS dS))) S_L_open_2 (fun _ => rfl) (en_list (ds := []) a_nil (Nat.le_of_ble_eq_true rfl)) ?_
  intro p_found_1
  refine ss_fr70 (Γ1 := [some ((dLo G.K (dT4 G.K dI dS dS dS)) a_talks_here), some ((dLo G.K (dSy G.K)) a_sayings), some (dP p_found_1), none, none]) (by exact ⟨.inr rfl, .inr rfl, .inr rfl, .inl rfl, .inl rfl, trivial⟩) ?_
  refine ss_fold (Γ := [some ((dLo G.K (dT4 G.K dI dS dS dS)) a_talks_here), some ((dLo G.K (dSy G.K)) a_sayings), some (dP p_found_1), none, none]) (df := (dT2 G.K dI (dT4 G.K dI dS dS dS))) (s0 := ([] : List (Int × Str × Str))) .rt (fun s_3 : (List (Int × Str × Str)) => [some ((dLo G.K (dT4 G.K dI dS dS dS)) a_talks_here), some ((dLo G.K (dSy G.K)) a_sayings), some (dP p_found_1), none, none]) (fun (s_3 : (List (Int × Str × Str))) (x_4 : (Int × (Int × Str × Str × Str))) => (([some ((dLo G.K (dT4 G.K dI dS dS dS)) a_talks_here), some ((dLo G.K (dSy G.K)) a_sayings), some (dP p_found_1), none, none]).set 3 (some (dI x_4.1))).set 4 (some ((dT4 G.K dI dS dS dS) x_4.2))) (fun s_3 : (List (Int × Str × Str)) => ((p_found_1, oLst (s_3.map (dT3 G.K dI dS dS))) :: O)) (ei_enum (f := (dT4 G.K dI dS dS dS)) (xs := a_talks_here) G_L_open_enumerate A.b_enumerate (e_var V_L_open_0 rfl) (fun _ => rfl)) (by exact ⟨.inr rfl, .inr rfl, .inr rfl, .inl rfl, .inl rfl, trivial⟩) rfl (fun _ => trivial) (fun s_3 x_4 => (tj_tup (tjs_cons (tj_name S_L_open_3) (tjs_cons (tj_name S_L_open_4) tjs_nil (fun _ => rfl)) (fun _ => rfl)) (fun _ => rfl) (fun _ => rfl))) ?_ ?_ (fun _ _ => rfl)
  ·
    intro s_3 x_4 pre_5 post_6 hs_7 hf_8
    have hm_9 : x_4 ∈ (enumL a_talks_here) := by rw [hs_7]; simp
    have := mem_enum hm_9
    have hpl_10 : pre_5.length < ((enumL a_talks_here)).length := by rw [hs_7, List.length_append, List.length_cons]; omega
    rw [enumL_len] at hpl_10
    have hgrow_11 : (s_3).length ≤ (([] : List (Int × Str × Str))).length + 2 * pre_5.length := by
      rw [hf_8]
      refine foldl_meas (m := fun s_3 : (List (Int × Str × Str)) => (s_3).length) ?_ (s0 := ([] : List (Int × Str × Str)))
      intro _ _
      first | exact app_le | exact putIf_len | (simp only [lt]; exact dPut_len) | (simp only [lt]; split <;> first | exact dPut_len | omega) | ((try simp only [lt]); (repeat' split) <;> first | exact dPut_len | exact Nat.le_succ _) | (simp only [lt, slen_app, signAt_len, List.length_append, List.length_cons, List.length_nil]; omega) | ((try simp only [lt]); (repeat' split) <;> ((try simp only [lt, slen_app, signAt_len, List.length_append, List.length_cons, List.length_nil]); omega))
    refine ss_join (fun s_13 : (List (Int × Str × Str)) => [some ((dLo G.K (dT4 G.K dI dS dS dS)) a_talks_here), some ((dLo G.K (dSy G.K)) a_sayings), some (dP p_found_1), some (dI x_4.1), some ((dT4 G.K dI dS dS dS) x_4.2)]) (fun s_13 : (List (Int × Str × Str)) => ((p_found_1, oLst (s_13.map (dT3 G.K dI dS dS))) :: O)) .nx (t_not (t_val (e_call (k_L_shut A) (by decide) G_L_open__law_shut ⟨a_sayings, x_4.2.1, x_4.2.2.1, x_4.2.2.2.1, True.intro, rfl, rfl⟩ (a_cons (e_var V_L_open_1 rfl) (a_cons (e_ixT (i := (0 : Int)) rfl (e_var V_L_open_4 rfl) e_int (fun _ _ => rfl)) (a_cons (e_ixT (i := (1 : Int)) rfl (e_var V_L_open_4 rfl) e_int (fun _ _ => rfl)) (a_cons (e_ixT (i := (2 : Int)) rfl (e_var V_L_open_4 rfl) e_int (fun _ _ => rfl)) a_nil (fun _ => rfl)) (fun _ => rfl)) (fun _ => rfl)) (fun _ => rfl)) (fun _ => rfl)) (fun _ _ => rfl))) (fun hc_12 => ?_) (fun hc_12 => ?_) ?_
    ·
      refine ss_app (f := (dT3 G.K dI dS dS)) (xs := s_3) (y := (x_4.1, x_4.2.2.1, x_4.2.2.2.1)) (n := 0) .nx rfl (e_var V_L_open_2 rfl) (e_tup (a_cons (e_var V_L_open_3 rfl) (a_cons (e_ixT (i := (1 : Int)) rfl (e_var V_L_open_4 rfl) e_int (fun _ _ => rfl)) (a_cons (e_ixT (i := (2 : Int)) rfl (e_var V_L_open_4 rfl) e_int (fun _ _ => rfl)) a_nil (fun _ => rfl)) (fun _ => rfl)) (fun _ => rfl)) (Nat.le_of_ble_eq_true rfl)) (by trivial) (fun _ => rfl) rfl (fun _ => rfl) ?_
      intro found_14 hfound_14
      have hfound_14_l : found_14.length = (s_3).length + 1 := by rw [hfound_14, List.length_append]; rfl
      exact ss_end (hold_end (by exact ⟨.inr rfl, .inr rfl, .inr rfl, .inr rfl, .inr rfl, trivial⟩))
    ·
      exact ss_end (hold_end (by exact ⟨.inr rfl, .inr rfl, .inr rfl, .inr rfl, .inr rfl, trivial⟩))
    intro s_13 hs_13
    have hal := app_len hs_13
    refine ss_if .nx (t_w (w_and (t_cmp c_eqS (e_ixT (i := (3 : Int)) rfl (e_var V_L_open_4 rfl) e_int (fun _ _ => rfl)) e_str rfl) (fun hb_15 => (w_and1 (t_not (t_val (e_call (k_L_shut A) (by decide) G_L_open__law_shut ⟨a_sayings, x_4.2.1, x_4.2.2.2.1, x_4.2.2.1, True.intro, rfl, rfl⟩ (a_cons (e_var V_L_open_1 rfl) (a_cons (e_ixT (i := (0 : Int)) rfl (e_var V_L_open_4 rfl) e_int (fun _ _ => rfl)) (a_cons (e_ixT (i := (2 : Int)) rfl (e_var V_L_open_4 rfl) e_int (fun _ _ => rfl)) (a_cons (e_ixT (i := (1 : Int)) rfl (e_var V_L_open_4 rfl) e_int (fun _ _ => rfl)) a_nil (fun _ => rfl)) (fun _ => rfl)) (fun _ => rfl)) (fun _ => rfl)) (fun _ => rfl)) (fun _ _ => rfl))))))) (fun hc_17 => ?_) (fun hc_17 => ?_)
    ·
      refine ss_app (f := (dT3 G.K dI dS dS)) (xs := s_13) (y := (x_4.1, x_4.2.2.2.1, x_4.2.2.1)) (n := 0) .nx rfl (e_var V_L_open_2 rfl) (e_tup (a_cons (e_var V_L_open_3 rfl) (a_cons (e_ixT (i := (2 : Int)) rfl (e_var V_L_open_4 rfl) e_int (fun _ _ => rfl)) (a_cons (e_ixT (i := (1 : Int)) rfl (e_var V_L_open_4 rfl) e_int (fun _ _ => rfl)) a_nil (fun _ => rfl)) (fun _ => rfl)) (fun _ => rfl)) (Nat.le_of_ble_eq_true rfl)) (by trivial) (fun _ => rfl) rfl (fun _ => rfl) ?_
      intro found_18 hfound_18
      have hfound_18_l : found_18.length = (s_13).length + 1 := by rw [hfound_18, List.length_append]; rfl
      exact ss_end (hold_end (by exact ⟨.inr rfl, .inr rfl, .inr rfl, .inl rfl, .inl rfl, trivial⟩))
    ·
      exact ss_end (hold_end (by exact ⟨.inr rfl, .inr rfl, .inr rfl, .inl rfl, .inl rfl, trivial⟩))
  intro s_3 he_L0
  have hgrow_21 : (s_3).length ≤ (([] : List (Int × Str × Str))).length + 2 * ((enumL a_talks_here)).length := by
    rw [he_L0]
    refine foldl_meas (m := fun s_3 : (List (Int × Str × Str)) => (s_3).length) ?_ (s0 := ([] : List (Int × Str × Str)))
    intro _ _
    first | exact app_le | exact putIf_len | (simp only [lt]; exact dPut_len) | (simp only [lt]; split <;> first | exact dPut_len | omega) | ((try simp only [lt]); (repeat' split) <;> first | exact dPut_len | exact Nat.le_succ _) | (simp only [lt, slen_app, signAt_len, List.length_append, List.length_cons, List.length_nil]; omega) | ((try simp only [lt]); (repeat' split) <;> ((try simp only [lt, slen_app, signAt_len, List.length_append, List.length_cons, List.length_nil]); omega))
  rw [enumL_len] at hgrow_21
  refine ss_freeze (G := G) (i := 2) rfl ?_
  exact ss_ret (e_var V_L_open_2 rfl) (fun _ _ _ h => h)
theorem k_L_open {G : Cfg} (A : All G) : Callee G 3 "_law_open" (sp_L_open G) := by
  refine A.d_L_open.callee (N := N_L_open) (ps := ["_law_talks_here", "_law_sayings"]) (scope_of rfl rfl rfl (by decide +kernel)) (fun ds O rk h => ?_) (fun _ _ _ _ _ _ us hl => match us, hl with | [_, _], _ => rfl) (fun ds O rk h => ?_)
  · obtain ⟨a_talks_here, a_sayings, hp, rfl, rfl⟩ := h; rfl
  · obtain ⟨a_talks_here, a_sayings, hp, rfl, rfl⟩ := h; exact ⟨_, _, _, _, b_L_open A O a_talks_here a_sayings hp, rfl⟩
def N_L_told : List Str := ["_law_habits_here", "_law_person", "_law_tale", "_law_words", "_law_word", "_law_others", "_law_one", "_law_two"]
def C_L_told : Sc := ⟨0, N_L_told, defScope (top 56), true, true⟩
instance : Calm C_L_told := ⟨rfl⟩
theorem nd_L_told : C_L_told.N.Nodup := by decide +kernel
theorem V_L_told_0 : Var C_L_told 0 "_law_habits_here" := var_of (by decide +kernel)
theorem V_L_told_1 : Var C_L_told 1 "_law_person" := var_of (by decide +kernel)
theorem V_L_told_2 : Var C_L_told 2 "_law_tale" := var_of (by decide +kernel)
theorem V_L_told_3 : Var C_L_told 3 "_law_words" := var_of (by decide +kernel)
theorem V_L_told_4 : Var C_L_told 4 "_law_word" := var_of (by decide +kernel)
theorem V_L_told_5 : Var C_L_told 5 "_law_others" := var_of (by decide +kernel)
theorem S_L_told_3 : Loca C_L_told 3 "_law_words" := loc_of (by decide +kernel)
theorem S_L_told_4 : Loca C_L_told 4 "_law_word" := loc_of (by decide +kernel)
theorem S_L_told_5 : Loca C_L_told 5 "_law_others" := loc_of (by decide +kernel)
theorem G_L_told_tuple : Glo C_L_told "tuple" := glo_of (by decide +kernel)
theorem b_L_told {G : Cfg} (A : All G) (O : Own) (a_habits_here : (List (Str × (List (Str × Str))))) (a_person : Str) (a_tale : (List Str)) (hpre : HabOk a_habits_here ∧ a_tale.length ≤ 100) : SS G C_L_told (defBody (top 56)) (frame0 N_L_told [(dDc kS (dLo G.K (dT2 G.K dS dS))) a_habits_here, dS a_person, (dVt G.K dS) a_tale]) O (fnV (dVt G.K dS) O) (.rt (m_L_told a_habits_here a_person a_tale)) := by
  unfold m_L_told
  have hha := hpre.1 a_person
  have hn0 : ([] : List Str).length = 0 := rfl
  refine ss_new (od := oLst (([] : List Str).map dS)) S_L_told_3 (fun _ => rfl) (en_list (ds := []) a_nil (Nat.le_of_ble_eq_true rfl)) ?_
  intro p_words_1
  refine ss_fr70 (Γ1 := [some ((dDc kS (dLo G.K (dT2 G.K dS dS))) a_habits_here), some (dS a_person), some ((dVt G.K dS) a_tale), some (dP p_words_1), none, none, none, none]) (by exact ⟨.inr rfl, .inr rfl, .inr rfl, .inr rfl, .inl rfl, .inl rfl, .inl rfl, .inl rfl, trivial⟩) ?_
  refine ss_fold (Γ := [some ((dDc kS (dLo G.K (dT2 G.K dS dS))) a_habits_here), some (dS a_person), some ((dVt G.K dS) a_tale), some (dP p_words_1), none, none, none, none]) (df := dS) (s0 := ([] : List Str)) .rt (fun s_3 : (List Str) => [some ((dDc kS (dLo G.K (dT2 G.K dS dS))) a_habits_here), some (dS a_person), some ((dVt G.K dS) a_tale), some (dP p_words_1), none, none, none, none]) (fun (s_3 : (List Str)) (x_4 : Str) => ([some ((dDc kS (dLo G.K (dT2 G.K dS dS))) a_habits_here), some (dS a_person), some ((dVt G.K dS) a_tale), some (dP p_words_1), none, none, none, none]).set 4 (some (dS x_4))) (fun s_3 : (List Str) => ((p_words_1, oLst (s_3.map dS)) :: O)) (ei_tup (e_var V_L_told_2 rfl)) (by exact ⟨.inr rfl, .inr rfl, .inr rfl, .inr rfl, .inl rfl, .inl rfl, .inl rfl, .inl rfl, trivial⟩) rfl (fun _ => trivial) (fun s_3 x_4 => (tj_name S_L_told_4)) ?_ ?_ (fun _ _ => rfl)
  ·
    intro s_3 x_4 pre_5 post_6 hs_7 hf_8
    have hm_9 : x_4 ∈ a_tale := by rw [hs_7]; simp
    have hpl_10 : pre_5.length < (a_tale).length := by rw [hs_7, List.length_append, List.length_cons]; omega
    have hgrow_11 : (s_3).length ≤ (([] : List Str)).length + 1 * pre_5.length := by
      rw [hf_8]
      refine foldl_meas (m := fun s_3 : (List Str) => (s_3).length) ?_ (s0 := ([] : List Str))
      intro _ _
      first | exact app_le | exact putIf_len | (simp only [lt]; exact dPut_len) | (simp only [lt]; split <;> first | exact dPut_len | omega) | ((try simp only [lt]); (repeat' split) <;> first | exact dPut_len | exact Nat.le_succ _) | (simp only [lt, slen_app, signAt_len, List.length_append, List.length_cons, List.length_nil]; omega) | ((try simp only [lt]); (repeat' split) <;> ((try simp only [lt, slen_app, signAt_len, List.length_append, List.length_cons, List.length_nil]); omega))
    refine ss_asgLc (f := (dLo G.K dS)) .nx S_L_told_5 (swL_of ⟨by decide +kernel, by decide +kernel, rfl, by decide +kernel⟩) (enl_lcG (own := [("_law_one", 6), ("_law_two", 7)]) (df := (dT2 G.K dS dS)) (dg := dS) (xs := ((dFind a_habits_here a_person).getD ([] : List (Str × Str)))) (pf := fun e_12 => (decide (e_12.1 = x_4))) (g := fun e_12 => e_12.2) nd_L_told (ei_list (e_get2F (f := (dLo G.K (dT2 G.K dS dS))) (kvs := a_habits_here) (y := ([] : List (Str × Str))) (fun _ _ => kS_inj) (e_var V_L_told_0 rfl) isK_S (e_var V_L_told_1 rfl) (en_lst (en_list (ds := []) a_nil (Nat.le_of_ble_eq_true rfl))) (fun _ => ⟨rfl, rfl, rfl, rfl⟩))) (fun _ _ => trivial) (blkOk_by (by decide +kernel)) (fun e_12 => (tj_tup (tjs_cons (tj_name (loc_of (i := 6) (by decide +kernel))) (tjs_cons (tj_name (loc_of (i := 7) (by decide +kernel))) tjs_nil (fun _ => rfl)) (fun _ => rfl)) (fun _ => rfl) (fun _ => rfl))) (by decide) (fun e_12 hm_13 _ _ => by exact ts_one (t_cmp c_eqS (e_var (var_of (i := 6) (by decide +kernel)) rfl) (e_var (var_of (i := 4) (by decide +kernel)) rfl) rfl)) (fun e_12 hm_13 hp_14 _ _ => by exact (e_var (var_of (i := 7) (by decide +kernel)) rfl)) (by trivial) (fun _ _ => rfl)) rfl ?_
    intro others_15 hothers_15
    have hothers_15_n : others_15.length ≤ (((dFind a_habits_here a_person).getD ([] : List (Str × Str)))).length := by rw [hothers_15, List.length_map]; exact List.length_filter_le _ _
    refine ss_app (f := dS) (xs := s_3) (y := (nth (others_15 ++ ([x_4])) (0 : Int))) (n := 0) .nx rfl (e_var V_L_told_3 rfl) (e_nthL (f := dS) (xs := (others_15 ++ ([x_4]))) (en_lst (en_cat (f := dS) (xs := others_15) (ys := [x_4]) (e_var V_L_told_5 rfl) (en_lst (en_list (ds := [dS x_4]) (a_cons (e_var V_L_told_4 rfl) a_nil (fun _ => rfl)) (Nat.le_of_ble_eq_true rfl))) (by trivial))) e_int (by trivial) (fun _ _ => rfl)) (by trivial) (fun _ => rfl) rfl (fun _ => rfl) ?_
    intro words_16 hwords_16
    have hwords_16_l : words_16.length = (s_3).length + 1 := by rw [hwords_16, List.length_append]; rfl
    exact ss_end (hold_end (by exact ⟨.inr rfl, .inr rfl, .inr rfl, .inr rfl, .inl rfl, .inl rfl, .inl rfl, .inl rfl, trivial⟩))
  intro s_3 he_L0
  have hgrow_19 : (s_3).length ≤ (([] : List Str)).length + 1 * (a_tale).length := by
    rw [he_L0]
    refine foldl_meas (m := fun s_3 : (List Str) => (s_3).length) ?_ (s0 := ([] : List Str))
    intro _ _
    first | exact app_le | exact putIf_len | (simp only [lt]; exact dPut_len) | (simp only [lt]; split <;> first | exact dPut_len | omega) | ((try simp only [lt]); (repeat' split) <;> first | exact dPut_len | exact Nat.le_succ _) | (simp only [lt, slen_app, signAt_len, List.length_append, List.length_cons, List.length_nil]; omega) | ((try simp only [lt]); (repeat' split) <;> ((try simp only [lt, slen_app, signAt_len, List.length_append, List.length_cons, List.length_nil]); omega))
  refine ss_freeze (G := G) (i := 3) rfl ?_
  exact ss_ret (e_callT k_tupL G_L_told_tuple A.b_tuple bt_tuple (a_cons (e_var V_L_told_3 rfl) a_nil (fun _ => rfl)) (fun _ => rfl)) (fun _ _ _ h => h)
theorem k_L_told {G : Cfg} (A : All G) : Callee G 1 "_law_told" (sp_L_told G) := by
  refine A.d_L_told.callee (N := N_L_told) (ps := ["_law_habits_here", "_law_person", "_law_tale"]) (scope_of rfl rfl rfl (by decide +kernel)) (fun ds O rk h => ?_) (fun _ _ _ _ _ _ us hl => match us, hl with | [_, _, _], _ => rfl) (fun ds O rk h => ?_)
  · obtain ⟨a_habits_here, a_person, a_tale, hp, rfl, rfl⟩ := h; rfl
  · obtain ⟨a_habits_here, a_person, a_tale, hp, rfl, rfl⟩ := h; exact ⟨_, _, _, _, b_L_told A O a_habits_here a_person a_tale hp, rfl⟩
def N_L_hops : List Str := ["_law_book", "_law_habits_here", "_law_persons", "_law_sights_here", "_law_talks_here", "_law_sayings", "_law_seen_here", "_law_hops_here", "_law_hour_here", "_law_k", "_law_teller", "_law_hearer", "_law_one", "_law_tales", "_law_person", "_law_at", "_law_tale", "_law_hop"]
def C_L_hops : Sc := ⟨3, N_L_hops, defScope (top 59), true, true⟩
instance : Calm C_L_hops := ⟨rfl⟩
theorem nd_L_hops : C_L_hops.N.Nodup := by decide +kernel
theorem V_L_hops_0 : Var C_L_hops 0 "_law_book" := var_of (by decide +kernel)
theorem V_L_hops_1 : Var C_L_hops 1 "_law_habits_here" := var_of (by decide +kernel)
theorem V_L_hops_3 : Var C_L_hops 3 "_law_sights_here" := var_of (by decide +kernel)
theorem V_L_hops_4 : Var C_L_hops 4 "_law_talks_here" := var_of (by decide +kernel)
theorem V_L_hops_5 : Var C_L_hops 5 "_law_sayings" := var_of (by decide +kernel)
theorem V_L_hops_6 : Var C_L_hops 6 "_law_seen_here" := var_of (by decide +kernel)
theorem V_L_hops_7 : Var C_L_hops 7 "_law_hops_here" := var_of (by decide +kernel)
theorem V_L_hops_8 : Var C_L_hops 8 "_law_hour_here" := var_of (by decide +kernel)
theorem V_L_hops_9 : Var C_L_hops 9 "_law_k" := var_of (by decide +kernel)
theorem V_L_hops_10 : Var C_L_hops 10 "_law_teller" := var_of (by decide +kernel)
theorem V_L_hops_11 : Var C_L_hops 11 "_law_hearer" := var_of (by decide +kernel)
theorem V_L_hops_13 : Var C_L_hops 13 "_law_tales" := var_of (by decide +kernel)
theorem V_L_hops_16 : Var C_L_hops 16 "_law_tale" := var_of (by decide +kernel)
theorem S_L_hops_2 : Loca C_L_hops 2 "_law_persons" := loc_of (by decide +kernel)
theorem S_L_hops_3 : Loca C_L_hops 3 "_law_sights_here" := loc_of (by decide +kernel)
theorem S_L_hops_4 : Loca C_L_hops 4 "_law_talks_here" := loc_of (by decide +kernel)
theorem S_L_hops_5 : Loca C_L_hops 5 "_law_sayings" := loc_of (by decide +kernel)
theorem S_L_hops_6 : Loca C_L_hops 6 "_law_seen_here" := loc_of (by decide +kernel)
theorem S_L_hops_7 : Loca C_L_hops 7 "_law_hops_here" := loc_of (by decide +kernel)
theorem S_L_hops_8 : Loca C_L_hops 8 "_law_hour_here" := loc_of (by decide +kernel)
theorem S_L_hops_9 : Loca C_L_hops 9 "_law_k" := loc_of (by decide +kernel)
theorem S_L_hops_10 : Loca C_L_hops 10 "_law_teller" := loc_of (by decide +kernel)
theorem S_L_hops_11 : Loca C_L_hops 11 "_law_hearer" := loc_of (by decide +kernel)
theorem S_L_hops_13 : Loca C_L_hops 13 "_law_tales" := loc_of (by decide +kernel)
theorem S_L_hops_16 : Loca C_L_hops 16 "_law_tale" := loc_of (by decide +kernel)
theorem G_L_hops__law_open : Glo C_L_hops "_law_open" := glo_of (by decide +kernel)
theorem G_L_hops__law_seen : Glo C_L_hops "_law_seen" := glo_of (by decide +kernel)
theorem G_L_hops__law_told : Glo C_L_hops "_law_told" := glo_of (by decide +kernel)
theorem G_L_hops_set : Glo C_L_hops "set" := glo_of (by decide +kernel)
theorem G_L_hops_sorted : Glo C_L_hops "sorted" := glo_of (by decide +kernel)
theorem b_L_hops {G : Cfg} (A : All G) (O : Own) (a_book : ((List Str) × (List (Str × Int × (List Str))) × (List (Int × Str × Str × Str)) × (List Sy))) (a_habits_here : (List (Str × (List (Str × Str))))) (hpre : HpOk a_book a_habits_here) : SS G C_L_hops (defBody (top 59)) (frame0 N_L_hops [(dT4 G.K (dLo G.K dS) (dLo G.K (dT3 G.K dS dI (dVt G.K dS))) (dLo G.K (dT4 G.K dI dS dS dS)) (dLo G.K (dSy G.K))) a_book, (dDc kS (dLo G.K (dT2 G.K dS dS))) a_habits_here]) O (fnV (dLo G.K (dT3 G.K dI (dT4 G.K dI dS dS (dVt G.K dS)) (dVt G.K dS))) O) (.rt (m_L_hops a_book a_habits_here)) := by
  unfold m_L_hops
  obtain ⟨P, T, hT⟩ := hpre.ex
  have htl := hpre.lt
  have hsl := hpre.ls
  have hsl2 : a_book.2.1.length ≤ 100 := by omega
  have hsn := lseen_len a_book.2.1 a_book.2.2.2
  have hop := lopen_mem (y := a_book.2.2.2) hT.tk
  have hti : ∀ x ∈ m_L_open a_book.2.2.1 a_book.2.2.2, inR a_book.2.2.1.length x.1 := fun x hx => (hop x hx).1
  have hol := lopen_len a_book.2.2.1 a_book.2.2.2
  refine ss_unp (d := (dT4 G.K (dLo G.K dS) (dLo G.K (dT3 G.K dS dI (dVt G.K dS))) (dLo G.K (dT4 G.K dI dS dS dS)) (dLo G.K (dSy G.K))) a_book) (e_var V_L_hops_0 rfl) (tj_tup (tjs_cons (tj_name S_L_hops_2) (tjs_cons (tj_name S_L_hops_3) (tjs_cons (tj_name S_L_hops_4) (tjs_cons (tj_name S_L_hops_5) tjs_nil (fun _ => rfl)) (fun _ => rfl)) (fun _ => rfl)) (fun _ => rfl)) (fun _ => rfl) (fun _ => rfl)) (fun _ => rfl) (fun _ => rfl) (fun _ => rfl) ?_
  refine ss_fr70 (Γ1 := [some ((dT4 G.K (dLo G.K dS) (dLo G.K (dT3 G.K dS dI (dVt G.K dS))) (dLo G.K (dT4 G.K dI dS dS dS)) (dLo G.K (dSy G.K))) a_book), some ((dDc kS (dLo G.K (dT2 G.K dS dS))) a_habits_here), some ((dLo G.K dS) a_book.1), some ((dLo G.K (dT3 G.K dS dI (dVt G.K dS))) a_book.2.1), some ((dLo G.K (dT4 G.K dI dS dS dS)) a_book.2.2.1), some ((dLo G.K (dSy G.K)) a_book.2.2.2), none, none, none, none, none, none, none, none, none, none, none, none]) (by exact ⟨.inr rfl, .inr rfl, .inr rfl, .inr rfl, .inr rfl, .inr rfl, .inl rfl, .inl rfl, .inl rfl, .inl rfl, .inl rfl, .inl rfl, .inl rfl, .inl rfl, .inl rfl, .inl rfl, .inl rfl, .inl rfl, trivial⟩) ?_
  refine ss_asg (f := (dLo G.K (dT3 G.K dS dI (dVt G.K dS)))) .rt S_L_hops_6 (fun _ => rfl) (e_call (k_L_seen A) (by decide) G_L_hops__law_seen ⟨a_book.2.1, a_book.2.2.2, (by trivial), rfl, rfl⟩ (a_cons (e_var V_L_hops_3 rfl) (a_cons (e_var V_L_hops_5 rfl) a_nil (fun _ => rfl)) (fun _ => rfl)) (fun _ => rfl)) ?_
  intro seen_here_1 hseen_here_1
  have hsm : ∀ x ∈ seen_here_1, x ∈ a_book.2.1 := by rw [hseen_here_1]; exact lseen_mem
  have hsln : seen_here_1.length ≤ 24 := by rw [hseen_here_1]; omega
  refine ss_new (od := oLst (([] : List (Int × (Int × Str × Str × (List Str)) × (List Str))).map (dT3 G.K dI (dT4 G.K dI dS dS (dVt G.K dS)) (dVt G.K dS)))) S_L_hops_7 (fun _ => rfl) (en_list (ds := []) a_nil (Nat.le_of_ble_eq_true rfl)) ?_
  intro p_hops_here_2
  refine ss_fr70 (Γ1 := [some ((dT4 G.K (dLo G.K dS) (dLo G.K (dT3 G.K dS dI (dVt G.K dS))) (dLo G.K (dT4 G.K dI dS dS dS)) (dLo G.K (dSy G.K))) a_book), some ((dDc kS (dLo G.K (dT2 G.K dS dS))) a_habits_here), some ((dLo G.K dS) a_book.1), some ((dLo G.K (dT3 G.K dS dI (dVt G.K dS))) a_book.2.1), some ((dLo G.K (dT4 G.K dI dS dS dS)) a_book.2.2.1), some ((dLo G.K (dSy G.K)) a_book.2.2.2), some ((dLo G.K (dT3 G.K dS dI (dVt G.K dS))) seen_here_1), some (dP p_hops_here_2), none, none, none, none, none, none, none, none, none, none]) (by exact ⟨.inr rfl, .inr rfl, .inr rfl, .inr rfl, .inr rfl, .inr rfl, .inr rfl, .inr rfl, .inl rfl, .inl rfl, .inl rfl, .inl rfl, .inl rfl, .inl rfl, .inl rfl, .inl rfl, .inl rfl, .inl rfl, trivial⟩) ?_
  have := @srt_len _ (fun x : (Int × Int × Str × Str) => PyData.tuple [PyData.int x.1, PyData.int x.2.1, PyData.str x.2.2.1, PyData.str x.2.2.2]) ((m_L_open a_book.2.2.1 a_book.2.2.2).map fun e_4 => ((nth a_book.2.2.1 e_4.1).1, e_4.1, e_4.2.1, e_4.2.2))
  refine ss_fold (Γ := [some ((dT4 G.K (dLo G.K dS) (dLo G.K (dT3 G.K dS dI (dVt G.K dS))) (dLo G.K (dT4 G.K dI dS dS dS)) (dLo G.K (dSy G.K))) a_book), some ((dDc kS (dLo G.K (dT2 G.K dS dS))) a_habits_here), some ((dLo G.K dS) a_book.1), some ((dLo G.K (dT3 G.K dS dI (dVt G.K dS))) a_book.2.1), some ((dLo G.K (dT4 G.K dI dS dS dS)) a_book.2.2.1), some ((dLo G.K (dSy G.K)) a_book.2.2.2), some ((dLo G.K (dT3 G.K dS dI (dVt G.K dS))) seen_here_1), some (dP p_hops_here_2), none, none, none, none, none, none, none, none, none, none]) (df := (dT4 G.K dI dI dS dS)) (s0 := ([] : List (Int × (Int × Str × Str × (List Str)) × (List Str)))) .rt (fun s_7 : (List (Int × (Int × Str × Str × (List Str)) × (List Str))) => [some ((dT4 G.K (dLo G.K dS) (dLo G.K (dT3 G.K dS dI (dVt G.K dS))) (dLo G.K (dT4 G.K dI dS dS dS)) (dLo G.K (dSy G.K))) a_book), some ((dDc kS (dLo G.K (dT2 G.K dS dS))) a_habits_here), some ((dLo G.K dS) a_book.1), some ((dLo G.K (dT3 G.K dS dI (dVt G.K dS))) a_book.2.1), some ((dLo G.K (dT4 G.K dI dS dS dS)) a_book.2.2.1), some ((dLo G.K (dSy G.K)) a_book.2.2.2), some ((dLo G.K (dT3 G.K dS dI (dVt G.K dS))) seen_here_1), some (dP p_hops_here_2), none, none, none, none, none, none, none, none, none, none]) (fun (s_7 : (List (Int × (Int × Str × Str × (List Str)) × (List Str)))) (x_8 : (Int × Int × Str × Str)) => (((([some ((dT4 G.K (dLo G.K dS) (dLo G.K (dT3 G.K dS dI (dVt G.K dS))) (dLo G.K (dT4 G.K dI dS dS dS)) (dLo G.K (dSy G.K))) a_book), some ((dDc kS (dLo G.K (dT2 G.K dS dS))) a_habits_here), some ((dLo G.K dS) a_book.1), some ((dLo G.K (dT3 G.K dS dI (dVt G.K dS))) a_book.2.1), some ((dLo G.K (dT4 G.K dI dS dS dS)) a_book.2.2.1), some ((dLo G.K (dSy G.K)) a_book.2.2.2), some ((dLo G.K (dT3 G.K dS dI (dVt G.K dS))) seen_here_1), some (dP p_hops_here_2), none, none, none, none, none, none, none, none, none, none]).set 8 (some (dI x_8.1))).set 9 (some (dI x_8.2.1))).set 10 (some (dS x_8.2.2.1))).set 11 (some (dS x_8.2.2.2))) (fun s_7 : (List (Int × (Int × Str × Str × (List Str)) × (List Str))) => ((p_hops_here_2, oLst (s_7.map (dT3 G.K dI (dT4 G.K dI dS dS (dVt G.K dS)) (dVt G.K dS)))) :: O)) (ei_list (en_lst (en_callB (k_sortL (dat_t4 dat_int dat_int dat_str dat_str) ⟨fun a b => by simp [PySem.W.alike, PySem.W.alikeAll, alike_wy], .inl fun a => ⟨_, _, rfl⟩⟩ (by decide) (by trivial)) G_L_hops_sorted A.b_sorted bt_sorted (a_cons (en_lst (en_lc (own := [("_law_one", 12)]) (df := (dT3 G.K dI dS dS)) (dg := (dT4 G.K dI dI dS dS)) (xs := (m_L_open a_book.2.2.1 a_book.2.2.2)) (g := fun e_4 => ((nth a_book.2.2.1 e_4.1).1, e_4.1, e_4.2.1, e_4.2.2)) nd_L_hops (ei_list (e_call (k_L_open A) (by decide) G_L_hops__law_open ⟨a_book.2.2.1, a_book.2.2.2, (by trivial), rfl, rfl⟩ (a_cons (e_var V_L_hops_4 rfl) (a_cons (e_var V_L_hops_5 rfl) a_nil (fun _ => rfl)) (fun _ => rfl)) (fun _ => rfl))) (fun _ _ => trivial) (blkOk_by (by decide +kernel)) (fun e_4 => (tj_name (loc_of (i := 12) (by decide +kernel)))) (by decide) (fun e_4 hm_5 _ _ => (e_catT (ds := [dI ((nth a_book.2.2.1 e_4.1).1)]) (es := [dI e_4.1, dS e_4.2.1, dS e_4.2.2]) (e_tup (ds := [dI ((nth a_book.2.2.1 e_4.1).1)]) (a_cons (e_ixT (i := (0 : Int)) rfl (e_nthL (f := (dT4 G.K dI dS dS dS)) (xs := a_book.2.2.1) (e_var (var_of (i := 4) (by decide +kernel)) rfl) (e_ixT (i := (0 : Int)) rfl (e_var (var_of (i := 12) (by decide +kernel)) rfl) e_int (fun _ _ => rfl)) (by trivial) (fun _ _ => rfl)) e_int (fun _ _ => rfl)) a_nil (fun _ => rfl)) (Nat.le_of_ble_eq_true rfl)) (e_var (var_of (i := 12) (by decide +kernel)) rfl) (Nat.le_of_ble_eq_true rfl))) (by trivial) (fun _ _ => rfl))) a_nil (fun _ => rfl)) (fun _ => rfl)))) (by exact ⟨.inr rfl, .inr rfl, .inr rfl, .inr rfl, .inr rfl, .inr rfl, .inr rfl, .inr rfl, .inl rfl, .inl rfl, .inl rfl, .inl rfl, .inl rfl, .inl rfl, .inl rfl, .inl rfl, .inl rfl, .inl rfl, trivial⟩) rfl (fun _ => trivial) (fun s_7 x_8 => (tj_tup (tjs_cons (tj_name S_L_hops_8) (tjs_cons (tj_name S_L_hops_9) (tjs_cons (tj_name S_L_hops_10) (tjs_cons (tj_name S_L_hops_11) tjs_nil (fun _ => rfl)) (fun _ => rfl)) (fun _ => rfl)) (fun _ => rfl)) (fun _ => rfl) (fun _ => rfl))) ?_ ?_ (fun _ _ => rfl)
  ·
    intro s_7 x_8 pre_9 post_10 hs_11 hf_12
    have hm_13 : x_8 ∈ (srtD (fun x : (Int × Int × Str × Str) => PyData.tuple [PyData.int x.1, PyData.int x.2.1, PyData.str x.2.2.1, PyData.str x.2.2.2]) ((m_L_open a_book.2.2.1 a_book.2.2.2).map fun e_4 => ((nth a_book.2.2.1 e_4.1).1, e_4.1, e_4.2.1, e_4.2.2))) := by rw [hs_11]; simp
    have hpl_14 : pre_9.length < ((srtD (fun x : (Int × Int × Str × Str) => PyData.tuple [PyData.int x.1, PyData.int x.2.1, PyData.str x.2.2.1, PyData.str x.2.2.2]) ((m_L_open a_book.2.2.1 a_book.2.2.2).map fun e_4 => ((nth a_book.2.2.1 e_4.1).1, e_4.1, e_4.2.1, e_4.2.2)))).length := by rw [hs_11, List.length_append, List.length_cons]; omega
    have hle : s_7 = pre_9.foldl (hopOut seen_here_1 a_habits_here) [] := hf_12
    have hin := hops_inv hT hsm pre_9 [] (fun _ z => nomatch z)
    rw [← hle] at hin
    have hi0 := hin.1
    have hl0 : s_7.length ≤ 0 + 60 * pre_9.length := hin.2
    have hpr : pre_9.length ≤ 200 := by rw [srt_len, List.length_map] at hpl_14; omega
    refine ss_asgLc (f := (dLo G.K (dVt G.K dS))) .nx S_L_hops_13 (swL_of ⟨by decide +kernel, by decide +kernel, rfl, by decide +kernel⟩) (enl_lcG (own := [("_law_person", 14), ("_law_at", 15), ("_law_tale", 16)]) (df := (dT3 G.K dS dI (dVt G.K dS))) (dg := (dVt G.K dS)) (xs := seen_here_1) (pf := fun e_15 => ((decide (e_15.1 = x_8.2.2.1)) && (decide (e_15.2.1 < x_8.1)))) (g := fun e_15 => e_15.2.2) nd_L_hops (ei_list (e_var V_L_hops_6 rfl)) (fun _ _ => trivial) (blkOk_by (by decide +kernel)) (fun e_15 => (tj_tup (tjs_cons (tj_name (loc_of (i := 14) (by decide +kernel))) (tjs_cons (tj_name (loc_of (i := 15) (by decide +kernel))) (tjs_cons (tj_name (loc_of (i := 16) (by decide +kernel))) tjs_nil (fun _ => rfl)) (fun _ => rfl)) (fun _ => rfl)) (fun _ => rfl) (fun _ => rfl))) (by decide) (fun e_15 hm_16 _ _ => by exact ts_one (t_w (w_and (t_cmp c_eqS (e_var (var_of (i := 14) (by decide +kernel)) rfl) (e_var (var_of (i := 10) (by decide +kernel)) rfl) rfl) (fun hb_18 => (w_and1 (t_cmp c_lt (e_var (var_of (i := 15) (by decide +kernel)) rfl) (e_var (var_of (i := 8) (by decide +kernel)) rfl) rfl)))))) (fun e_15 hm_16 hp_17 _ _ => by exact (e_var (var_of (i := 16) (by decide +kernel)) rfl)) (by trivial) (fun _ _ => rfl)) rfl ?_
    intro tales_20 htales_20
    have hTtales_20 : ∀ t ∈ tales_20, t ∈ T := by first | exact tales_pre hT hsm htales_20 | exact tales_cat hTtales_20 hi0 htales_20
    have hNtales_20 : ∀ t ∈ tales_20, t ≠ [] := hT.ne hTtales_20
    have hUtales_20 := hT.nub hTtales_20
    have hStales_20 : (srtSetT tales_20).length ≤ 60 := by rw [srtSetT, srt_len]; exact hUtales_20
    have htales_20_n : tales_20.length ≤ (seen_here_1).length := by rw [htales_20, List.length_map]; exact List.length_filter_le _ _
    refine ss_asg (f := (dLo G.K (dVt G.K dS))) .nx S_L_hops_13 (fun _ => rfl) (en_lst (en_cat (f := (dVt G.K dS)) (xs := tales_20) (ys := ((s_7.filter fun e_21 => ((decide (e_21.2.1.2.2.1 = x_8.2.2.1)) && (decide (e_21.1 < x_8.1)))).map fun e_21 => e_21.2.2)) (e_var V_L_hops_13 rfl) (en_lst (en_lcG (own := [("_law_hop", 17)]) (df := (dT3 G.K dI (dT4 G.K dI dS dS (dVt G.K dS)) (dVt G.K dS))) (dg := (dVt G.K dS)) (xs := s_7) (pf := fun e_21 => ((decide (e_21.2.1.2.2.1 = x_8.2.2.1)) && (decide (e_21.1 < x_8.1)))) (g := fun e_21 => e_21.2.2) nd_L_hops (ei_own (ds := List.map (dT3 G.K dI (dT4 G.K dI dS dS (dVt G.K dS)) (dVt G.K dS)) s_7) (n := 0) rfl (e_var V_L_hops_7 rfl)) (fun _ _ => ⟨1, rfl⟩) (blkOk_by (by decide +kernel)) (fun e_21 => (tj_name (loc_of (i := 17) (by decide +kernel)))) (by decide) (fun e_21 hm_22 _ _ => by exact ts_one (t_w (w_and (t_cmp c_eqS (e_ixT (i := (2 : Int)) rfl (e_ixT (i := (1 : Int)) rfl (e_var (var_of (i := 17) (by decide +kernel)) rfl) e_int (fun _ _ => rfl)) e_int (fun _ _ => rfl)) (e_var (var_of (i := 10) (by decide +kernel)) rfl) rfl) (fun hb_24 => (w_and1 (t_cmp c_lt (e_ixT (i := (0 : Int)) rfl (e_var (var_of (i := 17) (by decide +kernel)) rfl) e_int (fun _ _ => rfl)) (e_var (var_of (i := 8) (by decide +kernel)) rfl) rfl)))))) (fun e_21 hm_22 hp_23 _ _ => by exact (e_ixT (i := (2 : Int)) rfl (e_var (var_of (i := 17) (by decide +kernel)) rfl) e_int (fun _ _ => rfl))) (by trivial) (fun _ _ => rfl))) (by trivial))) ?_
    intro tales_26 htales_26
    have hTtales_26 : ∀ t ∈ tales_26, t ∈ T := by first | exact tales_pre hT hsm htales_26 | exact tales_cat hTtales_20 hi0 htales_26
    have hNtales_26 : ∀ t ∈ tales_26, t ≠ [] := hT.ne hTtales_26
    have hUtales_26 := hT.nub hTtales_26
    have hStales_26 : (srtSetT tales_26).length ≤ 60 := by rw [srtSetT, srt_len]; exact hUtales_26
    refine ss_fold (Γ := [some ((dT4 G.K (dLo G.K dS) (dLo G.K (dT3 G.K dS dI (dVt G.K dS))) (dLo G.K (dT4 G.K dI dS dS dS)) (dLo G.K (dSy G.K))) a_book), some ((dDc kS (dLo G.K (dT2 G.K dS dS))) a_habits_here), some ((dLo G.K dS) a_book.1), some ((dLo G.K (dT3 G.K dS dI (dVt G.K dS))) a_book.2.1), some ((dLo G.K (dT4 G.K dI dS dS dS)) a_book.2.2.1), some ((dLo G.K (dSy G.K)) a_book.2.2.2), some ((dLo G.K (dT3 G.K dS dI (dVt G.K dS))) seen_here_1), some (dP p_hops_here_2), some (dI x_8.1), some (dI x_8.2.1), some (dS x_8.2.2.1), some (dS x_8.2.2.2), none, some ((dLo G.K (dVt G.K dS)) tales_26), none, none, none, none]) (df := (dVt G.K dS)) (s0 := s_7) .nx (fun s_27 : (List (Int × (Int × Str × Str × (List Str)) × (List Str))) => [some ((dT4 G.K (dLo G.K dS) (dLo G.K (dT3 G.K dS dI (dVt G.K dS))) (dLo G.K (dT4 G.K dI dS dS dS)) (dLo G.K (dSy G.K))) a_book), some ((dDc kS (dLo G.K (dT2 G.K dS dS))) a_habits_here), some ((dLo G.K dS) a_book.1), some ((dLo G.K (dT3 G.K dS dI (dVt G.K dS))) a_book.2.1), some ((dLo G.K (dT4 G.K dI dS dS dS)) a_book.2.2.1), some ((dLo G.K (dSy G.K)) a_book.2.2.2), some ((dLo G.K (dT3 G.K dS dI (dVt G.K dS))) seen_here_1), some (dP p_hops_here_2), some (dI x_8.1), some (dI x_8.2.1), some (dS x_8.2.2.1), some (dS x_8.2.2.2), none, some ((dLo G.K (dVt G.K dS)) tales_26), none, none, none, none]) (fun (s_27 : (List (Int × (Int × Str × Str × (List Str)) × (List Str)))) (x_28 : (List Str)) => ([some ((dT4 G.K (dLo G.K dS) (dLo G.K (dT3 G.K dS dI (dVt G.K dS))) (dLo G.K (dT4 G.K dI dS dS dS)) (dLo G.K (dSy G.K))) a_book), some ((dDc kS (dLo G.K (dT2 G.K dS dS))) a_habits_here), some ((dLo G.K dS) a_book.1), some ((dLo G.K (dT3 G.K dS dI (dVt G.K dS))) a_book.2.1), some ((dLo G.K (dT4 G.K dI dS dS dS)) a_book.2.2.1), some ((dLo G.K (dSy G.K)) a_book.2.2.2), some ((dLo G.K (dT3 G.K dS dI (dVt G.K dS))) seen_here_1), some (dP p_hops_here_2), some (dI x_8.1), some (dI x_8.2.1), some (dS x_8.2.2.1), some (dS x_8.2.2.2), none, some ((dLo G.K (dVt G.K dS)) tales_26), none, none, none, none]).set 16 (some ((dVt G.K dS) x_28))) (fun s_27 : (List (Int × (Int × Str × Str × (List Str)) × (List Str))) => ((p_hops_here_2, oLst (s_27.map (dT3 G.K dI (dT4 G.K dI dS dS (dVt G.K dS)) (dVt G.K dS)))) :: O)) (ei_list (en_lst (en_sortSetT (xs := tales_26) (dat_vtup dat_str) (by decide) (by trivial) (by trivial) G_L_hops_sorted A.b_sorted G_L_hops_set A.b_set (e_var V_L_hops_13 rfl) (fun _ => rfl)))) (by exact ⟨.inr rfl, .inr rfl, .inr rfl, .inr rfl, .inr rfl, .inr rfl, .inr rfl, .inr rfl, .inr rfl, .inr rfl, .inr rfl, .inr rfl, .inl rfl, .inr rfl, .inl rfl, .inl rfl, .inl rfl, .inl rfl, trivial⟩) rfl (fun _ => trivial) (fun s_27 x_28 => (tj_name S_L_hops_16)) ?_ ?_ (fun _ _ => rfl)
    ·
      intro s_27 x_28 pre_29 post_30 hs_31 hf_32
      have hm_33 : x_28 ∈ (srtSetT tales_26) := by rw [hs_31]; simp
      have hpl_34 : pre_29.length < ((srtSetT tales_26)).length := by rw [hs_31, List.length_append, List.length_cons]; omega
      have hgrow_35 : (s_27).length ≤ (s_7).length + 1 * pre_29.length := by
        rw [hf_32]
        refine foldl_meas (m := fun s_27 : (List (Int × (Int × Str × Str × (List Str)) × (List Str))) => (s_27).length) ?_ (s0 := s_7)
        intro _ _
        first | exact app_le | exact putIf_len | (simp only [lt]; exact dPut_len) | (simp only [lt]; split <;> first | exact dPut_len | omega) | ((try simp only [lt]); (repeat' split) <;> first | exact dPut_len | exact Nat.le_succ _) | (simp only [lt, slen_app, signAt_len, List.length_append, List.length_cons, List.length_nil]; omega) | ((try simp only [lt]); (repeat' split) <;> ((try simp only [lt, slen_app, signAt_len, List.length_append, List.length_cons, List.length_nil]); omega))
      have htd : HabOk a_habits_here ∧ x_28.length ≤ 100 := ⟨hpre.hab, (hT.short _ (hTtales_26 _ (mem_srtSetT.mp hm_33))).2⟩
      refine ss_app (f := (dT3 G.K dI (dT4 G.K dI dS dS (dVt G.K dS)) (dVt G.K dS))) (xs := s_27) (y := (x_8.1, (x_8.2.1, x_8.2.2.1, x_8.2.2.2, x_28), (m_L_told a_habits_here x_8.2.2.1 x_28))) (n := 0) .nx rfl (e_var V_L_hops_7 rfl) (e_tup (a_cons (e_var V_L_hops_8 rfl) (a_cons (e_tup (a_cons (e_var V_L_hops_9 rfl) (a_cons (e_var V_L_hops_10 rfl) (a_cons (e_var V_L_hops_11 rfl) (a_cons (e_var V_L_hops_16 rfl) a_nil (fun _ => rfl)) (fun _ => rfl)) (fun _ => rfl)) (fun _ => rfl)) (Nat.le_of_ble_eq_true rfl)) (a_cons (e_call (k_L_told A) (by decide) G_L_hops__law_told ⟨a_habits_here, x_8.2.2.1, x_28, (by trivial), rfl, rfl⟩ (a_cons (e_var V_L_hops_1 rfl) (a_cons (e_var V_L_hops_10 rfl) (a_cons (e_var V_L_hops_16 rfl) a_nil (fun _ => rfl)) (fun _ => rfl)) (fun _ => rfl)) (fun _ => rfl)) a_nil (fun _ => rfl)) (fun _ => rfl)) (fun _ => rfl)) (Nat.le_of_ble_eq_true rfl)) (by trivial) (fun _ => rfl) rfl (fun _ => rfl) ?_
      intro hops_here_36 hhops_here_36
      have hhops_here_36_l : hops_here_36.length = (s_27).length + 1 := by rw [hhops_here_36, List.length_append]; rfl
      exact ss_end (hold_end (by exact ⟨.inr rfl, .inr rfl, .inr rfl, .inr rfl, .inr rfl, .inr rfl, .inr rfl, .inr rfl, .inr rfl, .inr rfl, .inr rfl, .inr rfl, .inl rfl, .inr rfl, .inl rfl, .inl rfl, .inl rfl, .inl rfl, trivial⟩))
    intro s_27 he_L1
    have hgrow_39 : (s_27).length ≤ (s_7).length + 1 * ((srtSetT tales_26)).length := by
      rw [he_L1]
      refine foldl_meas (m := fun s_27 : (List (Int × (Int × Str × Str × (List Str)) × (List Str))) => (s_27).length) ?_ (s0 := s_7)
      intro _ _
      first | exact app_le | exact putIf_len | (simp only [lt]; exact dPut_len) | (simp only [lt]; split <;> first | exact dPut_len | omega) | ((try simp only [lt]); (repeat' split) <;> first | exact dPut_len | exact Nat.le_succ _) | (simp only [lt, slen_app, signAt_len, List.length_append, List.length_cons, List.length_nil]; omega) | ((try simp only [lt]); (repeat' split) <;> ((try simp only [lt, slen_app, signAt_len, List.length_append, List.length_cons, List.length_nil]); omega))
    exact ss_end (hold_end (by exact ⟨.inr rfl, .inr rfl, .inr rfl, .inr rfl, .inr rfl, .inr rfl, .inr rfl, .inr rfl, .inl rfl, .inl rfl, .inl rfl, .inl rfl, .inl rfl, .inl rfl, .inl rfl, .inl rfl, .inl rfl, .inl rfl, trivial⟩))
  intro s_7 he_L0
  refine ss_freeze (G := G) (i := 7) rfl ?_
  exact ss_ret (e_var V_L_hops_7 rfl) (fun _ _ _ h => h)
theorem k_L_hops {G : Cfg} (A : All G) : Callee G 4 "_law_hops" (sp_L_hops G) := by
  refine A.d_L_hops.callee (N := N_L_hops) (ps := ["_law_book", "_law_habits_here"]) (scope_of rfl rfl rfl (by decide +kernel)) (fun ds O rk h => ?_) (fun _ _ _ _ _ _ us hl => match us, hl with | [_, _], _ => rfl) (fun ds O rk h => ?_)
  · obtain ⟨a_book, a_habits_here, hp, rfl, rfl⟩ := h; rfl
  · obtain ⟨a_book, a_habits_here, hp, rfl, rfl⟩ := h; exact ⟨_, _, _, _, b_L_hops A O a_book a_habits_here hp, rfl⟩
def N_L_saying : List Str := ["_law_cell", "_law_persons", "_law_far", "_law_one", "_law_two", "_law_hours", "_law_way"]
def C_L_saying : Sc := ⟨1, N_L_saying, defScope (top 51), true, true⟩
instance : Calm C_L_saying := ⟨rfl⟩
theorem V_L_saying_0 : Var C_L_saying 0 "_law_cell" := var_of (by decide +kernel)
theorem V_L_saying_1 : Var C_L_saying 1 "_law_persons" := var_of (by decide +kernel)
theorem V_L_saying_2 : Var C_L_saying 2 "_law_far" := var_of (by decide +kernel)
theorem V_L_saying_3 : Var C_L_saying 3 "_law_one" := var_of (by decide +kernel)
theorem V_L_saying_4 : Var C_L_saying 4 "_law_two" := var_of (by decide +kernel)
theorem V_L_saying_5 : Var C_L_saying 5 "_law_hours" := var_of (by decide +kernel)
theorem V_L_saying_6 : Var C_L_saying 6 "_law_way" := var_of (by decide +kernel)
theorem S_L_saying_3 : Loca C_L_saying 3 "_law_one" := loc_of (by decide +kernel)
theorem S_L_saying_4 : Loca C_L_saying 4 "_law_two" := loc_of (by decide +kernel)
theorem S_L_saying_5 : Loca C_L_saying 5 "_law_hours" := loc_of (by decide +kernel)
theorem S_L_saying_6 : Loca C_L_saying 6 "_law_way" := loc_of (by decide +kernel)
theorem G_L_saying__law_hour : Glo C_L_saying "_law_hour" := glo_of (by decide +kernel)
theorem G_L_saying__law_mix : Glo C_L_saying "_law_mix" := glo_of (by decide +kernel)
theorem G_L_saying_len : Glo C_L_saying "len" := glo_of (by decide +kernel)
theorem G_L_saying_sorted : Glo C_L_saying "sorted" := glo_of (by decide +kernel)
theorem b_L_saying {G : Cfg} (A : All G) (O : Own) (a_cell : Int) (a_persons : (List Str)) (a_far : Int) (hpre : (0 ≤ a_far ∧ a_far ≤ 2) ∧ 1 < a_persons.length) : SS G C_L_saying (defBody (top 51)) (frame0 N_L_saying [dI a_cell, (dLo G.K dS) a_persons, dI a_far]) O (fnV (dSy G.K) O) (.rt (m_L_saying a_cell a_persons a_far)) := by
  unfold m_L_saying
  have hfar := hpre.1
  have hpl := hpre.2
  refine ss_asg (f := dS) .rt S_L_saying_3 (fun _ => rfl) (e_nthL (f := dS) (xs := a_persons) (e_var V_L_saying_1 rfl) (e_mod (e_call (k_L_mix A) (by decide) G_L_saying__law_mix ⟨a_cell, (5 : Int), (by trivial), rfl, rfl⟩ (a_cons (e_var V_L_saying_0 rfl) (a_cons e_int a_nil (fun _ => rfl)) (fun _ => rfl)) (fun _ => rfl)) (e_callB (k_lenLo (xs := a_persons) (f := dS)) G_L_saying_len A.b_len bt_len (a_cons (e_var V_L_saying_1 rfl) a_nil (fun _ => rfl)) (fun _ => rfl)) (by trivial)) (by trivial) (fun _ _ => rfl)) ?_
  intro one_1 hone_1
  have hone : one_1 ∈ a_persons := by rw [hone_1]; exact nth_mem (inR_mod (by omega))
  refine ss_fr70 (Γ1 := [some (dI a_cell), some ((dLo G.K dS) a_persons), some (dI a_far), some (dS one_1), none, none, none]) (by exact ⟨.inr rfl, .inr rfl, .inr rfl, .inr rfl, .inl rfl, .inl rfl, .inl rfl, trivial⟩) ?_
  refine ss_asg (f := dS) .rt S_L_saying_4 (fun _ => rfl) (e_nthL (f := dS) (xs := a_persons) (e_var V_L_saying_1 rfl) (e_mod (e_add (e_add (e_lidx (e_var V_L_saying_1 rfl) (e_var V_L_saying_3 rfl) (by trivial) (fun _ => rfl) rfl (fun _ => rfl)) e_int) (e_mod (e_call (k_L_mix A) (by decide) G_L_saying__law_mix ⟨a_cell, (6 : Int), (by trivial), rfl, rfl⟩ (a_cons (e_var V_L_saying_0 rfl) (a_cons e_int a_nil (fun _ => rfl)) (fun _ => rfl)) (fun _ => rfl)) (e_sub (e_callB (k_lenLo (xs := a_persons) (f := dS)) G_L_saying_len A.b_len bt_len (a_cons (e_var V_L_saying_1 rfl) a_nil (fun _ => rfl)) (fun _ => rfl)) e_int) (by trivial))) (e_callB (k_lenLo (xs := a_persons) (f := dS)) G_L_saying_len A.b_len bt_len (a_cons (e_var V_L_saying_1 rfl) a_nil (fun _ => rfl)) (fun _ => rfl)) (by trivial)) (by trivial) (fun _ _ => rfl)) ?_
  intro two_2 htwo_2
  have := @srt_len _ PyData.int ([(m_L_hour (m_L_mix a_cell (7 : Int)) a_far), (m_L_hour (m_L_mix a_cell (8 : Int)) a_far)])
  refine ss_asg (f := (dLo G.K dI)) .rt S_L_saying_5 (fun _ => rfl) (en_lst (en_callB (k_sortL dat_int ord_int (by decide) (by trivial)) G_L_saying_sorted A.b_sorted bt_sorted (a_cons (en_lst (en_list (ds := [dI (m_L_hour (m_L_mix a_cell (7 : Int)) a_far), dI (m_L_hour (m_L_mix a_cell (8 : Int)) a_far)]) (a_cons (e_call (k_L_hour A) (by decide) G_L_saying__law_hour ⟨(m_L_mix a_cell (7 : Int)), a_far, (by trivial), rfl, rfl⟩ (a_cons (e_call (k_L_mix A) (by decide) G_L_saying__law_mix ⟨a_cell, (7 : Int), (by trivial), rfl, rfl⟩ (a_cons (e_var V_L_saying_0 rfl) (a_cons e_int a_nil (fun _ => rfl)) (fun _ => rfl)) (fun _ => rfl)) (a_cons (e_var V_L_saying_2 rfl) a_nil (fun _ => rfl)) (fun _ => rfl)) (fun _ => rfl)) (a_cons (e_call (k_L_hour A) (by decide) G_L_saying__law_hour ⟨(m_L_mix a_cell (8 : Int)), a_far, (by trivial), rfl, rfl⟩ (a_cons (e_call (k_L_mix A) (by decide) G_L_saying__law_mix ⟨a_cell, (8 : Int), (by trivial), rfl, rfl⟩ (a_cons (e_var V_L_saying_0 rfl) (a_cons e_int a_nil (fun _ => rfl)) (fun _ => rfl)) (fun _ => rfl)) (a_cons (e_var V_L_saying_2 rfl) a_nil (fun _ => rfl)) (fun _ => rfl)) (fun _ => rfl)) a_nil (fun _ => rfl)) (fun _ => rfl)) (Nat.le_of_ble_eq_true rfl))) a_nil (fun _ => rfl)) (fun _ => rfl))) ?_
  intro hours_3 hhours_3
  have hhl : hours_3.length = 2 := by rw [hhours_3, srt_len]; rfl
  have hh0 : inR hours_3.length 0 := by show _ ≤ _ ∧ _ < _; omega
  have hh1 : inR hours_3.length 1 := by show _ ≤ _ ∧ _ < _; omega
  refine ss_fr70 (Γ1 := [some (dI a_cell), some ((dLo G.K dS) a_persons), some (dI a_far), some (dS one_1), some (dS two_2), some ((dLo G.K dI) hours_3), none]) (by exact ⟨.inr rfl, .inr rfl, .inr rfl, .inr rfl, .inr rfl, .inr rfl, .inl rfl, trivial⟩) ?_
  refine ss_asg (f := dI) .rt S_L_saying_6 (fun _ => rfl) (e_mod (e_call (k_L_mix A) (by decide) G_L_saying__law_mix ⟨a_cell, (9 : Int), (by trivial), rfl, rfl⟩ (a_cons (e_var V_L_saying_0 rfl) (a_cons e_int a_nil (fun _ => rfl)) (fun _ => rfl)) (fun _ => rfl)) e_int (by trivial)) ?_
  intro way_4 hway_4
  refine ss_when .rt (t_cmp c_eqI (e_var V_L_saying_6 rfl) e_int rfl) (fun _ => nofun) (fun hc_5 => ?_) (fun hc_5 => ?_)
  ·
    exact ss_ret (e_tup (ds := (Sy.barred one_1 two_2).ds) (a_cons e_str (a_cons (e_var V_L_saying_3 rfl) (a_cons (e_var V_L_saying_4 rfl) a_nil (fun _ => rfl)) (fun _ => rfl)) (fun _ => rfl)) (Nat.le_of_ble_eq_true rfl)) (fun _ _ _ h => h)
  refine ss_fr70 (Γ1 := [some (dI a_cell), some ((dLo G.K dS) a_persons), some (dI a_far), some (dS one_1), some (dS two_2), some ((dLo G.K dI) hours_3), some (dI way_4)]) (by exact ⟨.inr rfl, .inr rfl, .inr rfl, .inr rfl, .inr rfl, .inr rfl, .inr rfl, trivial⟩) ?_
  refine ss_when .rt (t_cmp c_lt (e_var V_L_saying_6 rfl) e_int rfl) (fun _ => nofun) (fun hc_6 => ?_) (fun hc_6 => ?_)
  ·
    exact ss_ret (e_tup (ds := (Sy.silent one_1 (nth hours_3 (0 : Int)) (nth hours_3 (1 : Int))).ds) (a_cons e_str (a_cons (e_var V_L_saying_3 rfl) (a_cons (e_nthL (f := dI) (xs := hours_3) (e_var V_L_saying_5 rfl) e_int (by trivial) (fun _ _ => rfl)) (a_cons (e_nthL (f := dI) (xs := hours_3) (e_var V_L_saying_5 rfl) e_int (by trivial) (fun _ _ => rfl)) a_nil (fun _ => rfl)) (fun _ => rfl)) (fun _ => rfl)) (fun _ => rfl)) (Nat.le_of_ble_eq_true rfl)) (fun _ _ _ h => h)
  refine ss_when .rt (t_cmp c_lt (e_var V_L_saying_6 rfl) e_int rfl) (fun _ => nofun) (fun hc_7 => ?_) (fun hc_7 => ?_)
  ·
    exact ss_ret (e_tup (ds := (Sy.unheard one_1 (some (nth hours_3 (0 : Int)))).ds) (a_cons e_str (a_cons (e_var V_L_saying_3 rfl) (a_cons (e_nthL (f := dI) (xs := hours_3) (e_var V_L_saying_5 rfl) e_int (by trivial) (fun _ _ => rfl)) a_nil (fun _ => rfl)) (fun _ => rfl)) (fun _ => rfl)) (Nat.le_of_ble_eq_true rfl)) (fun _ _ _ h => h)
  refine ss_fr70 (Γ1 := [some (dI a_cell), some ((dLo G.K dS) a_persons), some (dI a_far), some (dS one_1), some (dS two_2), some ((dLo G.K dI) hours_3), some (dI way_4)]) (by exact ⟨.inr rfl, .inr rfl, .inr rfl, .inr rfl, .inr rfl, .inr rfl, .inr rfl, trivial⟩) ?_
  refine ss_when .rt (t_cmp c_eqI (e_var V_L_saying_6 rfl) e_int rfl) (fun _ => nofun) (fun hc_8 => ?_) (fun hc_8 => ?_)
  ·
    exact ss_ret (e_tup (ds := (Sy.unheard one_1 (nth ([(none : (Option Int)), (some (nth hours_3 (0 : Int)))]) ((m_L_mix a_cell (10 : Int)) % (2 : Int)))).ds) (a_cons e_str (a_cons (e_var V_L_saying_3 rfl) (a_cons (e_nthL (f := (dO dI)) (xs := [(none : (Option Int)), (some (nth hours_3 (0 : Int)))]) (en_lst (en_list (ds := [(dO dI) (none : (Option Int)), (dO dI) (some (nth hours_3 (0 : Int)))]) (a_cons e_none (a_cons (e_nthL (f := dI) (xs := hours_3) (e_var V_L_saying_5 rfl) e_int (by trivial) (fun _ _ => rfl)) a_nil (fun _ => rfl)) (fun _ => rfl)) (Nat.le_of_ble_eq_true rfl))) (e_mod (e_call (k_L_mix A) (by decide) G_L_saying__law_mix ⟨a_cell, (10 : Int), (by trivial), rfl, rfl⟩ (a_cons (e_var V_L_saying_0 rfl) (a_cons e_int a_nil (fun _ => rfl)) (fun _ => rfl)) (fun _ => rfl)) e_int (by trivial)) (inR_len (m := 2) rfl (by trivial)) (fun _ _ => rfl)) a_nil (fun _ => rfl)) (fun _ => rfl)) (fun _ => rfl)) (Nat.le_of_ble_eq_true rfl)) (fun _ _ _ h => h)
  exact ss_ret (e_tup (ds := (Sy.knew one_1 (nth hours_3 (1 : Int))).ds) (a_cons e_str (a_cons (e_var V_L_saying_3 rfl) (a_cons (e_nthL (f := dI) (xs := hours_3) (e_var V_L_saying_5 rfl) e_int (by trivial) (fun _ _ => rfl)) a_nil (fun _ => rfl)) (fun _ => rfl)) (fun _ => rfl)) (Nat.le_of_ble_eq_true rfl)) (fun _ _ _ h => h)
theorem k_L_saying {G : Cfg} (A : All G) : Callee G 2 "_law_saying" (sp_L_saying G) := by
  refine A.d_L_saying.callee (N := N_L_saying) (ps := ["_law_cell", "_law_persons", "_law_far"]) (scope_of rfl rfl rfl (by decide +kernel)) (fun ds O rk h => ?_) (fun _ _ _ _ _ _ us hl => match us, hl with | [_, _, _], _ => rfl) (fun ds O rk h => ?_)
  · obtain ⟨a_cell, a_persons, a_far, hp, rfl, rfl⟩ := h; rfl
  · obtain ⟨a_cell, a_persons, a_far, hp, rfl, rfl⟩ := h; exact ⟨_, _, _, _, b_L_saying A O a_cell a_persons a_far hp, rfl⟩
def N_L_cell_at : List Str := ["_law_script", "_law_k"]
def C_L_cell_at : Sc := ⟨0, N_L_cell_at, defScope (top 46), true, true⟩
instance : Calm C_L_cell_at := ⟨rfl⟩
theorem V_L_cell_at_0 : Var C_L_cell_at 0 "_law_script" := var_of (by decide +kernel)
theorem V_L_cell_at_1 : Var C_L_cell_at 1 "_law_k" := var_of (by decide +kernel)
theorem G_L_cell_at_len : Glo C_L_cell_at "len" := glo_of (by decide +kernel)
theorem b_L_cell_at {G : Cfg} (A : All G) (O : Own) (a_script : (List Int)) (a_k : Int) (hpre : 0 ≤ a_k) : SS G C_L_cell_at (defBody (top 46)) (frame0 N_L_cell_at [(dLo G.K dI) a_script, dI a_k]) O (fnV dI O) (.rt (m_L_cell_at a_script a_k)) := by
  unfold m_L_cell_at
  refine ss_fr70 (Γ1 := [some ((dLo G.K dI) a_script), some (dI a_k)]) (by exact ⟨.inr rfl, .inr rfl, trivial⟩) ?_
  refine ss_when .rt (t_cmp c_lt (e_var V_L_cell_at_1 rfl) (e_callB (k_lenLo (xs := a_script) (f := dI)) G_L_cell_at_len A.b_len bt_len (a_cons (e_var V_L_cell_at_0 rfl) a_nil (fun _ => rfl)) (fun _ => rfl)) rfl) (fun _ => nofun) (fun hc_1 => ?_) (fun hc_1 => ?_)
  ·
    exact ss_ret (e_nthL (f := dI) (xs := a_script) (e_var V_L_cell_at_0 rfl) (e_var V_L_cell_at_1 rfl) (by trivial) (fun _ _ => rfl)) (fun _ _ _ h => h)
  exact ss_ret e_int (fun _ _ _ h => h)
theorem k_L_cell_at {G : Cfg} (A : All G) : Callee G 1 "_law_cell_at" (sp_L_cell_at G) := by
  refine A.d_L_cell_at.callee (N := N_L_cell_at) (ps := ["_law_script", "_law_k"]) (scope_of rfl rfl rfl (by decide +kernel)) (fun ds O rk h => ?_) (fun _ _ _ _ _ _ us hl => match us, hl with | [_, _], _ => rfl) (fun ds O rk h => ?_)
  · obtain ⟨a_script, a_k, hp, rfl, rfl⟩ := h; rfl
  · obtain ⟨a_script, a_k, hp, rfl, rfl⟩ := h; exact ⟨_, _, _, _, b_L_cell_at A O a_script a_k hp, rfl⟩
def N_L_traced : List Str := ["_law_hops_here", "_law_person", "_law_tale", "_law_hour_here", "_law_good", "_law_at", "_law_hop", "_law_told_here", "_law_ends", "_law_on", "_law_one"]
def C_L_traced : Sc := ⟨0, N_L_traced, defScope (top 60), true, true⟩
instance : Calm C_L_traced := ⟨rfl⟩
theorem nd_L_traced : C_L_traced.N.Nodup := by decide +kernel
theorem V_L_traced_0 : Var C_L_traced 0 "_law_hops_here" := var_of (by decide +kernel)
theorem V_L_traced_1 : Var C_L_traced 1 "_law_person" := var_of (by decide +kernel)
theorem V_L_traced_2 : Var C_L_traced 2 "_law_tale" := var_of (by decide +kernel)
theorem V_L_traced_3 : Var C_L_traced 3 "_law_hour_here" := var_of (by decide +kernel)
theorem V_L_traced_4 : Var C_L_traced 4 "_law_good" := var_of (by decide +kernel)
theorem V_L_traced_5 : Var C_L_traced 5 "_law_at" := var_of (by decide +kernel)
theorem V_L_traced_6 : Var C_L_traced 6 "_law_hop" := var_of (by decide +kernel)
theorem V_L_traced_7 : Var C_L_traced 7 "_law_told_here" := var_of (by decide +kernel)
theorem V_L_traced_8 : Var C_L_traced 8 "_law_ends" := var_of (by decide +kernel)
theorem V_L_traced_9 : Var C_L_traced 9 "_law_on" := var_of (by decide +kernel)
theorem S_L_traced_4 : Loca C_L_traced 4 "_law_good" := loc_of (by decide +kernel)
theorem S_L_traced_5 : Loca C_L_traced 5 "_law_at" := loc_of (by decide +kernel)
theorem S_L_traced_6 : Loca C_L_traced 6 "_law_hop" := loc_of (by decide +kernel)
theorem S_L_traced_7 : Loca C_L_traced 7 "_law_told_here" := loc_of (by decide +kernel)
theorem S_L_traced_8 : Loca C_L_traced 8 "_law_ends" := loc_of (by decide +kernel)
theorem S_L_traced_9 : Loca C_L_traced 9 "_law_on" := loc_of (by decide +kernel)
theorem G_L_traced_reversed : Glo C_L_traced "reversed" := glo_of (by decide +kernel)
theorem G_L_traced_sorted : Glo C_L_traced "sorted" := glo_of (by decide +kernel)
theorem b_L_traced {G : Cfg} (A : All G) (O : Own) (a_hops_here : (List (Int × (Int × Str × Str × (List Str)) × (List Str)))) (a_person : Str) (a_tale : (List Str)) (a_hour_here : Int) (hpre : a_hops_here.length ≤ 12000) : SS G C_L_traced (defBody (top 60)) (frame0 N_L_traced [(dLo G.K (dT3 G.K dI (dT4 G.K dI dS dS (dVt G.K dS)) (dVt G.K dS))) a_hops_here, dS a_person, (dVt G.K dS) a_tale, dI a_hour_here]) O (fnV (dLo G.K (dT4 G.K dI dS dS (dVt G.K dS))) O) (.rt (m_L_traced a_hops_here a_person a_tale a_hour_here)) := by
  unfold m_L_traced
  have hn0 : ([] : List HopL).length = 0 := rfl
  have hrl : a_hops_here.reverse.length = a_hops_here.length := List.length_reverse
  refine ss_new (od := oLst (([] : List (Int × (Int × Str × Str × (List Str)) × (List Str))).map (dT3 G.K dI (dT4 G.K dI dS dS (dVt G.K dS)) (dVt G.K dS)))) S_L_traced_4 (fun _ => rfl) (en_list (ds := []) a_nil (Nat.le_of_ble_eq_true rfl)) ?_
  intro p_good_1
  refine ss_fr70 (Γ1 := [some ((dLo G.K (dT3 G.K dI (dT4 G.K dI dS dS (dVt G.K dS)) (dVt G.K dS))) a_hops_here), some (dS a_person), some ((dVt G.K dS) a_tale), some (dI a_hour_here), some (dP p_good_1), none, none, none, none, none, none]) (by exact ⟨.inr rfl, .inr rfl, .inr rfl, .inr rfl, .inr rfl, .inl rfl, .inl rfl, .inl rfl, .inl rfl, .inl rfl, .inl rfl, trivial⟩) ?_
  refine ss_fold (Γ := [some ((dLo G.K (dT3 G.K dI (dT4 G.K dI dS dS (dVt G.K dS)) (dVt G.K dS))) a_hops_here), some (dS a_person), some ((dVt G.K dS) a_tale), some (dI a_hour_here), some (dP p_good_1), none, none, none, none, none, none]) (df := (dT3 G.K dI (dT4 G.K dI dS dS (dVt G.K dS)) (dVt G.K dS))) (s0 := ([] : List (Int × (Int × Str × Str × (List Str)) × (List Str)))) .rt (fun s_3 : (List (Int × (Int × Str × Str × (List Str)) × (List Str))) => [some ((dLo G.K (dT3 G.K dI (dT4 G.K dI dS dS (dVt G.K dS)) (dVt G.K dS))) a_hops_here), some (dS a_person), some ((dVt G.K dS) a_tale), some (dI a_hour_here), some (dP p_good_1), none, none, none, none, none, none]) (fun (s_3 : (List (Int × (Int × Str × Str × (List Str)) × (List Str)))) (x_4 : (Int × (Int × Str × Str × (List Str)) × (List Str))) => ((([some ((dLo G.K (dT3 G.K dI (dT4 G.K dI dS dS (dVt G.K dS)) (dVt G.K dS))) a_hops_here), some (dS a_person), some ((dVt G.K dS) a_tale), some (dI a_hour_here), some (dP p_good_1), none, none, none, none, none, none]).set 5 (some (dI x_4.1))).set 6 (some ((dT4 G.K dI dS dS (dVt G.K dS)) x_4.2.1))).set 7 (some ((dVt G.K dS) x_4.2.2))) (fun s_3 : (List (Int × (Int × Str × Str × (List Str)) × (List Str))) => ((p_good_1, oLst (s_3.map (dT3 G.K dI (dT4 G.K dI dS dS (dVt G.K dS)) (dVt G.K dS)))) :: O)) (ei_revM (f := (dT3 G.K dI (dT4 G.K dI dS dS (dVt G.K dS)) (dVt G.K dS))) (xs := a_hops_here) G_L_traced_reversed A.b_reversed (e_var V_L_traced_0 rfl) (fun _ => rfl)) (by exact ⟨.inr rfl, .inr rfl, .inr rfl, .inr rfl, .inr rfl, .inl rfl, .inl rfl, .inl rfl, .inl rfl, .inl rfl, .inl rfl, trivial⟩) rfl (fun _ => trivial) (fun s_3 x_4 => (tj_tup (tjs_cons (tj_name S_L_traced_5) (tjs_cons (tj_name S_L_traced_6) (tjs_cons (tj_name S_L_traced_7) tjs_nil (fun _ => rfl)) (fun _ => rfl)) (fun _ => rfl)) (fun _ => rfl) (fun _ => rfl))) ?_ ?_ (fun _ _ => rfl)
  ·
    intro s_3 x_4 pre_5 post_6 hs_7 hf_8
    have hm_9 : x_4 ∈ a_hops_here.reverse := by rw [hs_7]; simp
    have hpl_10 : pre_5.length < (a_hops_here.reverse).length := by rw [hs_7, List.length_append, List.length_cons]; omega
    have hgrow_11 : (s_3).length ≤ (([] : List (Int × (Int × Str × Str × (List Str)) × (List Str)))).length + 1 * pre_5.length := by
      rw [hf_8]
      refine foldl_meas (m := fun s_3 : (List (Int × (Int × Str × Str × (List Str)) × (List Str))) => (s_3).length) ?_ (s0 := ([] : List (Int × (Int × Str × Str × (List Str)) × (List Str))))
      intro _ _
      first | exact app_le | exact putIf_len | (simp only [lt]; exact dPut_len) | (simp only [lt]; split <;> first | exact dPut_len | omega) | ((try simp only [lt]); (repeat' split) <;> first | exact dPut_len | exact Nat.le_succ _) | (simp only [lt, slen_app, signAt_len, List.length_append, List.length_cons, List.length_nil]; omega) | ((try simp only [lt]); (repeat' split) <;> ((try simp only [lt, slen_app, signAt_len, List.length_append, List.length_cons, List.length_nil]); omega))
    refine ss_asg (f := dB) .nx S_L_traced_8 (fun _ => rfl) (e_and (e_cmp c_eqS (e_ixT (i := (2 : Int)) rfl (e_var V_L_traced_6 rfl) e_int (fun _ _ => rfl)) (e_var V_L_traced_1 rfl) rfl) (fun hb_12 => (e_and (e_cmp (c_eqDat (f := (dVt G.K dS)) (a := x_4.2.2) (b := a_tale) (dat_vtup dat_str) (by decide)) (e_var V_L_traced_7 rfl) (e_var V_L_traced_2 rfl) rfl) (fun hb_13 => (e_bool1 (e_cmp c_le (e_var V_L_traced_5 rfl) (e_var V_L_traced_3 rfl) rfl)))))) ?_
    intro ends_15 hends_15
    refine ss_asgLc (f := (dLo G.K (dT3 G.K dI (dT4 G.K dI dS dS (dVt G.K dS)) (dVt G.K dS)))) .nx S_L_traced_9 (swL_of ⟨by decide +kernel, by decide +kernel, rfl, by decide +kernel⟩) (enl_lcG (own := [("_law_one", 10)]) (df := (dT3 G.K dI (dT4 G.K dI dS dS (dVt G.K dS)) (dVt G.K dS))) (dg := (dT3 G.K dI (dT4 G.K dI dS dS (dVt G.K dS)) (dVt G.K dS))) (xs := s_3) (pf := fun e_16 => ((decide (e_16.2.1.2.1 = x_4.2.1.2.2.1)) && ((decide (e_16.2.1.2.2.2 = x_4.2.2)) && (decide (x_4.1 < e_16.1))))) (g := fun e_16 => e_16) nd_L_traced (ei_own (ds := List.map (dT3 G.K dI (dT4 G.K dI dS dS (dVt G.K dS)) (dVt G.K dS)) s_3) (n := 0) rfl (e_var V_L_traced_4 rfl)) (fun _ _ => ⟨1, rfl⟩) (blkOk_by (by decide +kernel)) (fun e_16 => (tj_name (loc_of (i := 10) (by decide +kernel)))) (by decide) (fun e_16 hm_17 _ _ => by exact ts_one (t_w (w_and (t_cmp c_eqS (e_ixT (i := (1 : Int)) rfl (e_ixT (i := (1 : Int)) rfl (e_var (var_of (i := 10) (by decide +kernel)) rfl) e_int (fun _ _ => rfl)) e_int (fun _ _ => rfl)) (e_ixT (i := (2 : Int)) rfl (e_var (var_of (i := 6) (by decide +kernel)) rfl) e_int (fun _ _ => rfl)) rfl) (fun hb_19 => (w_and (t_cmp (c_eqDat (f := (dVt G.K dS)) (a := e_16.2.1.2.2.2) (b := x_4.2.2) (dat_vtup dat_str) (by decide)) (e_ixT (i := (3 : Int)) rfl (e_ixT (i := (1 : Int)) rfl (e_var (var_of (i := 10) (by decide +kernel)) rfl) e_int (fun _ _ => rfl)) e_int (fun _ _ => rfl)) (e_var (var_of (i := 7) (by decide +kernel)) rfl) rfl) (fun hb_20 => (w_and1 (t_cmp c_gt (e_ixT (i := (0 : Int)) rfl (e_var (var_of (i := 10) (by decide +kernel)) rfl) e_int (fun _ _ => rfl)) (e_var (var_of (i := 5) (by decide +kernel)) rfl) rfl)))))))) (fun e_16 hm_17 hp_18 _ _ => by exact (e_var (var_of (i := 10) (by decide +kernel)) rfl)) (by trivial) (fun _ _ => rfl)) rfl ?_
    intro on_22 hon_22
    have hon_22_n : on_22.length ≤ (s_3).length := by rw [hon_22, List.length_map]; exact List.length_filter_le _ _
    refine ss_if .nx (t_w (w_or (t_val (e_var V_L_traced_8 rfl) (fun _ _ => rfl)) (fun hb_23 => (w_or1 (t_cmp (c_neDat (f := (dLo G.K (dT3 G.K dI (dT4 G.K dI dS dS (dVt G.K dS)) (dVt G.K dS)))) (a := on_22) (b := ([] : List (Int × (Int × Str × Str × (List Str)) × (List Str)))) (dat_lst (dat_t3 (Dat.up dat_int (m := 2) (by decide)) (dat_t4 (Dat.up dat_int (m := 1) (by decide)) (Dat.up dat_str (m := 1) (by decide)) (Dat.up dat_str (m := 1) (by decide)) (dat_vtup dat_str)) (Dat.up (dat_vtup dat_str) (m := 2) (by decide)))) (by decide)) (e_var V_L_traced_9 rfl) (en_lst (en_list (ds := []) a_nil (Nat.le_of_ble_eq_true rfl))) rfl))))) (fun hc_25 => ?_) (fun hc_25 => ?_)
    ·
      refine ss_app (f := (dT3 G.K dI (dT4 G.K dI dS dS (dVt G.K dS)) (dVt G.K dS))) (xs := s_3) (y := (x_4.1, x_4.2.1, x_4.2.2)) (n := 0) .nx rfl (e_var V_L_traced_4 rfl) (e_tup (a_cons (e_var V_L_traced_5 rfl) (a_cons (e_var V_L_traced_6 rfl) (a_cons (e_var V_L_traced_7 rfl) a_nil (fun _ => rfl)) (fun _ => rfl)) (fun _ => rfl)) (Nat.le_of_ble_eq_true rfl)) (by trivial) (fun _ => rfl) rfl (fun _ => rfl) ?_
      intro good_26 hgood_26
      have hgood_26_l : good_26.length = (s_3).length + 1 := by rw [hgood_26, List.length_append]; rfl
      exact ss_end (hold_end (by exact ⟨.inr rfl, .inr rfl, .inr rfl, .inr rfl, .inr rfl, .inl rfl, .inl rfl, .inl rfl, .inl rfl, .inl rfl, .inl rfl, trivial⟩))
    ·
      exact ss_end (hold_end (by exact ⟨.inr rfl, .inr rfl, .inr rfl, .inr rfl, .inr rfl, .inl rfl, .inl rfl, .inl rfl, .inl rfl, .inl rfl, .inl rfl, trivial⟩))
  intro s_3 he_L0
  have hgrow_32 : (s_3).length ≤ (([] : List (Int × (Int × Str × Str × (List Str)) × (List Str)))).length + 1 * (a_hops_here.reverse).length := by
    rw [he_L0]
    refine foldl_meas (m := fun s_3 : (List (Int × (Int × Str × Str × (List Str)) × (List Str))) => (s_3).length) ?_ (s0 := ([] : List (Int × (Int × Str × Str × (List Str)) × (List Str))))
    intro _ _
    first | exact app_le | exact putIf_len | (simp only [lt]; exact dPut_len) | (simp only [lt]; split <;> first | exact dPut_len | omega) | ((try simp only [lt]); (repeat' split) <;> first | exact dPut_len | exact Nat.le_succ _) | (simp only [lt, slen_app, signAt_len, List.length_append, List.length_cons, List.length_nil]; omega) | ((try simp only [lt]); (repeat' split) <;> ((try simp only [lt, slen_app, signAt_len, List.length_append, List.length_cons, List.length_nil]); omega))
  refine ss_freeze (G := G) (i := 4) rfl ?_
  have := @srt_len _ (fun x : (Int × Str × Str × (List Str)) => PyData.tuple [PyData.int x.1, PyData.str x.2.1, PyData.str x.2.2.1, (fun xs => PyData.tuple (xs.map PyData.str)) x.2.2.2]) (s_3.map fun e_27 => e_27.2.1)
  exact ss_ret (en_lst (en_callB (k_sortL (dat_t4 (Dat.up dat_int (m := 1) (by decide)) (Dat.up dat_str (m := 1) (by decide)) (Dat.up dat_str (m := 1) (by decide)) (dat_vtup dat_str)) ⟨fun a b => by simp [PySem.W.alike, PySem.W.alikeAll, alike_wy, alike_strs], .inl fun a => ⟨_, _, rfl⟩⟩ (by decide) (by trivial)) G_L_traced_sorted A.b_sorted bt_sorted (a_cons (en_lst (en_lc (own := [("_law_one", 10)]) (df := (dT3 G.K dI (dT4 G.K dI dS dS (dVt G.K dS)) (dVt G.K dS))) (dg := (dT4 G.K dI dS dS (dVt G.K dS))) (xs := s_3) (g := fun e_27 => e_27.2.1) nd_L_traced (ei_list (e_var V_L_traced_4 rfl)) (fun _ _ => trivial) (blkOk_by (by decide +kernel)) (fun e_27 => (tj_name (loc_of (i := 10) (by decide +kernel)))) (by decide) (fun e_27 hm_28 _ _ => (e_ixT (i := (1 : Int)) rfl (e_var (var_of (i := 10) (by decide +kernel)) rfl) e_int (fun _ _ => rfl))) (by trivial) (fun _ _ => rfl))) a_nil (fun _ => rfl)) (fun _ => rfl))) (fun _ _ _ h => h)
theorem k_L_traced {G : Cfg} (A : All G) : Callee G 1 "_law_traced" (sp_L_traced G) := by
  refine A.d_L_traced.callee (N := N_L_traced) (ps := ["_law_hops_here", "_law_person", "_law_tale", "_law_hour_here"]) (scope_of rfl rfl rfl (by decide +kernel)) (fun ds O rk h => ?_) (fun _ _ _ _ _ _ us hl => match us, hl with | [_, _, _, _], _ => rfl) (fun ds O rk h => ?_)
  · obtain ⟨a_hops_here, a_person, a_tale, a_hour_here, hp, rfl, rfl⟩ := h; rfl
  · obtain ⟨a_hops_here, a_person, a_tale, a_hour_here, hp, rfl, rfl⟩ := h; exact ⟨_, _, _, _, b_L_traced A O a_hops_here a_person a_tale a_hour_here hp, rfl⟩
def N_L_right : List Str := ["_law_book", "_law_habits_here", "_law_made", "_law_hops_here", "_law_case", "_law_due", "_law_found", "_law_hop"]
def C_L_right : Sc := ⟨7, N_L_right, defScope (top 61), true, true⟩
instance : Calm C_L_right := ⟨rfl⟩
theorem V_L_right_1 : Var C_L_right 1 "_law_habits_here" := var_of (by decide +kernel)
theorem V_L_right_2 : Var C_L_right 2 "_law_made" := var_of (by decide +kernel)
theorem V_L_right_3 : Var C_L_right 3 "_law_hops_here" := var_of (by decide +kernel)
theorem V_L_right_4 : Var C_L_right 4 "_law_case" := var_of (by decide +kernel)
theorem V_L_right_5 : Var C_L_right 5 "_law_due" := var_of (by decide +kernel)
theorem V_L_right_6 : Var C_L_right 6 "_law_found" := var_of (by decide +kernel)
theorem V_L_right_7 : Var C_L_right 7 "_law_hop" := var_of (by decide +kernel)
theorem S_L_right_5 : Loca C_L_right 5 "_law_due" := loc_of (by decide +kernel)
theorem S_L_right_6 : Loca C_L_right 6 "_law_found" := loc_of (by decide +kernel)
theorem S_L_right_7 : Loca C_L_right 7 "_law_hop" := loc_of (by decide +kernel)
theorem G_L_right__law_traced : Glo C_L_right "_law_traced" := glo_of (by decide +kernel)
theorem G_L_right_bool : Glo C_L_right "bool" := glo_of (by decide +kernel)
theorem G_L_right_int : Glo C_L_right "int" := glo_of (by decide +kernel)
theorem G_L_right_isinstance : Glo C_L_right "isinstance" := glo_of (by decide +kernel)
theorem G_L_right_list : Glo C_L_right "list" := glo_of (by decide +kernel)
theorem G_L_right_traced : Glo C_L_right "traced" := glo_of (by decide +kernel)
theorem G_L_right_tuple : Glo C_L_right "tuple" := glo_of (by decide +kernel)
theorem b_L_right {G : Cfg} (A : All G) (O : Own) (a_book : ((List Str) × (List (Str × Int × (List Str))) × (List (Int × Str × Str × Str)) × (List Sy))) (a_habits_here : (List (Str × (List (Str × Str))))) (a_made : BookV) (a_hops_here : (List (Int × (Int × Str × Str × (List Str)) × (List Str)))) (a_case : (Str × (List Str) × Int)) (hpre : (a_hops_here.length ≤ 12000 ∧ VerOk a_made a_habits_here) ∧ LamOk G "earliest_versions" O) : SS G C_L_right (defBody (top 61)) (frame0 N_L_right [(dT4 G.K (dLo G.K dS) (dLo G.K (dT3 G.K dS dI (dVt G.K dS))) (dLo G.K (dT4 G.K dI dS dS dS)) (dLo G.K (dSy G.K))) a_book, (dDc kS (dLo G.K (dT2 G.K dS dS))) a_habits_here, (dBook G) a_made, (dLo G.K (dT3 G.K dI (dT4 G.K dI dS dS (dVt G.K dS)) (dVt G.K dS))) a_hops_here, (dT3 G.K dS (dVt G.K dS) dI) a_case]) O (fnV dB O) (.rt (m_L_right a_book a_habits_here a_made a_hops_here a_case)) := by
  unfold m_L_right
  have hlam := hpre.2
  have hhl := hpre.1.1
  have hvo := hpre.1.2
  have htl := @traced_len a_made a_habits_here a_case.1 a_case.2.1 a_case.2.2 hvo
  refine ss_fr70 (Γ1 := [some ((dT4 G.K (dLo G.K dS) (dLo G.K (dT3 G.K dS dI (dVt G.K dS))) (dLo G.K (dT4 G.K dI dS dS dS)) (dLo G.K (dSy G.K))) a_book), some ((dDc kS (dLo G.K (dT2 G.K dS dS))) a_habits_here), some ((dBook G) a_made), some ((dLo G.K (dT3 G.K dI (dT4 G.K dI dS dS (dVt G.K dS)) (dVt G.K dS))) a_hops_here), some ((dT3 G.K dS (dVt G.K dS) dI) a_case), none, none, none]) (by exact ⟨.inr rfl, .inr rfl, .inr rfl, .inr rfl, .inr rfl, .inl rfl, .inl rfl, .inl rfl, trivial⟩) ?_
  refine ss_asg (f := (dLo G.K (dT4 G.K dI dS dS (dVt G.K dS)))) .rt S_L_right_5 (fun _ => rfl) (e_call (k_L_traced A) (by decide) G_L_right__law_traced ⟨a_hops_here, a_case.1, a_case.2.1, a_case.2.2, (by trivial), rfl, rfl⟩ (a_cons (e_var V_L_right_3 rfl) (a_cons (e_ixT (i := (0 : Int)) rfl (e_var V_L_right_4 rfl) e_int (fun _ _ => rfl)) (a_cons (e_ixT (i := (1 : Int)) rfl (e_var V_L_right_4 rfl) e_int (fun _ _ => rfl)) (a_cons (e_ixT (i := (2 : Int)) rfl (e_var V_L_right_4 rfl) e_int (fun _ _ => rfl)) a_nil (fun _ => rfl)) (fun _ => rfl)) (fun _ => rfl)) (fun _ => rfl)) (fun _ => rfl)) ?_
  intro due_1 hdue_1
  refine ss_new (od := oLst ((m_P_traced a_made a_habits_here a_case.1 a_case.2.1 a_case.2.2).map (dT4 G.K dI dS dS (dVt G.K dS)))) S_L_right_6 (fun _ => rfl) (en_call (k_P_traced A) (by decide) G_L_right_traced ⟨a_made, a_habits_here, a_case.1, a_case.2.1, a_case.2.2, (by trivial), rfl, rfl⟩ (a_cons (e_var V_L_right_2 rfl) (a_cons (e_var V_L_right_1 rfl) (a_cons (e_ixT (i := (0 : Int)) rfl (e_var V_L_right_4 rfl) e_int (fun _ _ => rfl)) (a_cons (e_ixT (i := (1 : Int)) rfl (e_var V_L_right_4 rfl) e_int (fun _ _ => rfl)) (a_cons (e_ixT (i := (2 : Int)) rfl (e_var V_L_right_4 rfl) e_int (fun _ _ => rfl)) a_nil (fun _ => rfl)) (fun _ => rfl)) (fun _ => rfl)) (fun _ => rfl)) (fun _ => rfl)) (fun _ => rfl)) ?_
  intro p_found_2
  refine ss_fr70 (Γ1 := [some ((dT4 G.K (dLo G.K dS) (dLo G.K (dT3 G.K dS dI (dVt G.K dS))) (dLo G.K (dT4 G.K dI dS dS dS)) (dLo G.K (dSy G.K))) a_book), some ((dDc kS (dLo G.K (dT2 G.K dS dS))) a_habits_here), some ((dBook G) a_made), some ((dLo G.K (dT3 G.K dI (dT4 G.K dI dS dS (dVt G.K dS)) (dVt G.K dS))) a_hops_here), some ((dT3 G.K dS (dVt G.K dS) dI) a_case), some ((dLo G.K (dT4 G.K dI dS dS (dVt G.K dS))) due_1), some (dP p_found_2), none]) (by exact ⟨.inr rfl, .inr rfl, .inr rfl, .inr rfl, .inr rfl, .inr rfl, .inr rfl, .inl rfl, trivial⟩) ?_
  refine ss_when .rt (t_w (w_or (t_not (t_val (e_callB (k_bor (k_isi (b := true) ty_lst (by decide +kernel)) free_V (cv_cons (cv1_own (G := G) (ds := List.map (dT4 G.K dI dS dS (dVt G.K dS)) (m_P_traced a_made a_habits_here a_case.1 a_case.2.1 a_case.2.2)) (n := 0) rfl) (cv_cons cv1_same cv_nil))) G_L_right_isinstance A.b_isinstance bt_isinstance (a_cons (e_var V_L_right_6 rfl) (a_cons (e_tyname G_L_right_list A.b_list bt_list) a_nil (fun _ => rfl)) (fun _ => rfl)) (fun _ => rfl)) (fun _ _ => rfl))) (fun hb_4 => (w_or1 (t_cmp (c_bor (c_neDat (f := (dLo G.K (dT4 G.K dI dS dS (dVt G.K dS)))) (a := (m_P_traced a_made a_habits_here a_case.1 a_case.2.1 a_case.2.2)) (b := due_1) (dat_lst (dat_t4 (Dat.up dat_int (m := 1) (by decide)) (Dat.up dat_str (m := 1) (by decide)) (Dat.up dat_str (m := 1) (by decide)) (dat_vtup dat_str))) (by decide)) (cv1_own (G := G) (ds := List.map (dT4 G.K dI dS dS (dVt G.K dS)) (m_P_traced a_made a_habits_here a_case.1 a_case.2.1 a_case.2.2)) (n := 0) rfl) cv1_same) (e_var V_L_right_6 rfl) (e_var V_L_right_5 rfl) rfl))))) (fun _ => nofun) (fun hc_6 => ?_) (fun hc_6 => ?_)
  ·
    exact ss_ret e_bool (fun _ _ _ h => (rk_drop h))
  refine ss_loop (Γ := [some ((dT4 G.K (dLo G.K dS) (dLo G.K (dT3 G.K dS dI (dVt G.K dS))) (dLo G.K (dT4 G.K dI dS dS dS)) (dLo G.K (dSy G.K))) a_book), some ((dDc kS (dLo G.K (dT2 G.K dS dS))) a_habits_here), some ((dBook G) a_made), some ((dLo G.K (dT3 G.K dI (dT4 G.K dI dS dS (dVt G.K dS)) (dVt G.K dS))) a_hops_here), some ((dT3 G.K dS (dVt G.K dS) dI) a_case), some ((dLo G.K (dT4 G.K dI dS dS (dVt G.K dS))) due_1), some (dP p_found_2), none]) (df := (dT4 G.K dI dS dS (dVt G.K dS))) (s0 := ()) (fun s_7 : Unit => [some ((dT4 G.K (dLo G.K dS) (dLo G.K (dT3 G.K dS dI (dVt G.K dS))) (dLo G.K (dT4 G.K dI dS dS dS)) (dLo G.K (dSy G.K))) a_book), some ((dDc kS (dLo G.K (dT2 G.K dS dS))) a_habits_here), some ((dBook G) a_made), some ((dLo G.K (dT3 G.K dI (dT4 G.K dI dS dS (dVt G.K dS)) (dVt G.K dS))) a_hops_here), some ((dT3 G.K dS (dVt G.K dS) dI) a_case), some ((dLo G.K (dT4 G.K dI dS dS (dVt G.K dS))) due_1), some (dP p_found_2), none]) (fun (s_7 : Unit) (x_8 : (Int × Str × Str × (List Str))) => ([some ((dT4 G.K (dLo G.K dS) (dLo G.K (dT3 G.K dS dI (dVt G.K dS))) (dLo G.K (dT4 G.K dI dS dS dS)) (dLo G.K (dSy G.K))) a_book), some ((dDc kS (dLo G.K (dT2 G.K dS dS))) a_habits_here), some ((dBook G) a_made), some ((dLo G.K (dT3 G.K dI (dT4 G.K dI dS dS (dVt G.K dS)) (dVt G.K dS))) a_hops_here), some ((dT3 G.K dS (dVt G.K dS) dI) a_case), some ((dLo G.K (dT4 G.K dI dS dS (dVt G.K dS))) due_1), some (dP p_found_2), none]).set 7 (some ((dT4 G.K dI dS dS (dVt G.K dS)) x_8))) (fun s_7 : Unit => ((p_found_2, oLst ((m_P_traced a_made a_habits_here a_case.1 a_case.2.1 a_case.2.2).map (dT4 G.K dI dS dS (dVt G.K dS)))) :: O)) (ei_own (ds := List.map (dT4 G.K dI dS dS (dVt G.K dS)) (m_P_traced a_made a_habits_here a_case.1 a_case.2.1 a_case.2.2)) (n := 0) rfl (e_var V_L_right_6 rfl)) (by exact ⟨.inr rfl, .inr rfl, .inr rfl, .inr rfl, .inr rfl, .inr rfl, .inr rfl, .inl rfl, trivial⟩) rfl (fun _ => ⟨0, rfl⟩) (fun s_7 x_8 => (tj_name S_L_right_7)) ?_ ?_ (fun _ _ => rfl)
  ·
    intro s_7 x_8 pre_9 post_10 hs_11 hf_12
    have hm_13 : x_8 ∈ (m_P_traced a_made a_habits_here a_case.1 a_case.2.1 a_case.2.2) := by rw [hs_11]; simp
    have hpl_14 : pre_9.length < ((m_P_traced a_made a_habits_here a_case.1 a_case.2.1 a_case.2.2)).length := by rw [hs_11, List.length_append, List.length_cons]; omega
    refine ss_if Ret.out (t_w (w_or (t_not (t_val (e_callB (k_isi (b := true) ty_tup (by decide +kernel)) G_L_right_isinstance A.b_isinstance bt_isinstance (a_cons (e_var V_L_right_7 rfl) (a_cons (e_tyname G_L_right_tuple A.b_tuple bt_tuple) a_nil (fun _ => rfl)) (fun _ => rfl)) (fun _ => rfl)) (fun _ _ => rfl))) (fun hb_15 => (w_or (t_not (t_val (e_callB (k_isi (b := true) ty_int (by decide +kernel)) G_L_right_isinstance A.b_isinstance bt_isinstance (a_cons (e_ixT (i := (0 : Int)) rfl (e_var V_L_right_7 rfl) e_int (fun _ _ => rfl)) (a_cons (e_tyname G_L_right_int A.b_int bt_int) a_nil (fun _ => rfl)) (fun _ => rfl)) (fun _ => rfl)) (fun _ _ => rfl))) (fun hb_16 => (w_or1 (t_val (e_callB (k_isi (b := false) ty_int (by decide +kernel)) G_L_right_isinstance A.b_isinstance bt_isinstance (a_cons (e_ixT (i := (0 : Int)) rfl (e_var V_L_right_7 rfl) e_int (fun _ _ => rfl)) (a_cons (e_tyname G_L_right_bool A.b_bool bt_bool) a_nil (fun _ => rfl)) (fun _ => rfl)) (fun _ => rfl)) (fun _ _ => rfl)))))))) (fun hc_18 => ?_) (fun hc_18 => ?_)
    ·
      exact ss_ret e_bool (fun _ _ _ h => (rk_drop h))
    ·
      exact ss_end (hold_end (by exact ⟨.inr rfl, .inr rfl, .inr rfl, .inr rfl, .inr rfl, .inr rfl, .inr rfl, .inl rfl, trivial⟩))
  intro s_7 he_L0
  refine ss_fr70 (Γ1 := [some ((dT4 G.K (dLo G.K dS) (dLo G.K (dT3 G.K dS dI (dVt G.K dS))) (dLo G.K (dT4 G.K dI dS dS dS)) (dLo G.K (dSy G.K))) a_book), some ((dDc kS (dLo G.K (dT2 G.K dS dS))) a_habits_here), some ((dBook G) a_made), some ((dLo G.K (dT3 G.K dI (dT4 G.K dI dS dS (dVt G.K dS)) (dVt G.K dS))) a_hops_here), some ((dT3 G.K dS (dVt G.K dS) dI) a_case), some ((dLo G.K (dT4 G.K dI dS dS (dVt G.K dS))) due_1), some (dP p_found_2), none]) (by exact ⟨.inr rfl, .inr rfl, .inr rfl, .inr rfl, .inr rfl, .inr rfl, .inr rfl, .inl rfl, trivial⟩) ?_
  refine ss_appX (n := 0) rfl (e_var V_L_right_6 rfl) e_none (by trivial) (fun _ => rfl) rfl (fun _ => rfl) ?_
  exact ss_ret (e_cmp (c_eqDat (f := (dLo G.K (dT4 G.K dI dS dS (dVt G.K dS)))) (a := (m_P_traced a_made a_habits_here a_case.1 a_case.2.1 a_case.2.2)) (b := due_1) (dat_lst (dat_t4 (Dat.up dat_int (m := 1) (by decide)) (Dat.up dat_str (m := 1) (by decide)) (Dat.up dat_str (m := 1) (by decide)) (dat_vtup dat_str))) (by decide)) (en_lst (en_call (k_P_traced A) (by decide) G_L_right_traced ⟨a_made, a_habits_here, a_case.1, a_case.2.1, a_case.2.2, (by trivial), rfl, rfl⟩ (a_cons (e_var V_L_right_2 rfl) (a_cons (e_var V_L_right_1 rfl) (a_cons (e_ixT (i := (0 : Int)) rfl (e_var V_L_right_4 rfl) e_int (fun _ _ => rfl)) (a_cons (e_ixT (i := (1 : Int)) rfl (e_var V_L_right_4 rfl) e_int (fun _ _ => rfl)) (a_cons (e_ixT (i := (2 : Int)) rfl (e_var V_L_right_4 rfl) e_int (fun _ _ => rfl)) a_nil (fun _ => rfl)) (fun _ => rfl)) (fun _ => rfl)) (fun _ => rfl)) (fun _ => rfl)) (fun _ => rfl))) (e_var V_L_right_5 rfl) rfl) (fun _ _ _ h => (rk_drop h))
theorem k_L_right {G : Cfg} (A : All G) : Callee G 8 "_law_right" (sp_L_right G) := by
  refine A.d_L_right.callee (N := N_L_right) (ps := ["_law_book", "_law_habits_here", "_law_made", "_law_hops_here", "_law_case"]) (scope_of rfl rfl rfl (by decide +kernel)) (fun ds O rk h => ?_) (fun _ _ _ _ _ _ us hl => match us, hl with | [_, _, _, _, _], _ => rfl) (fun ds O rk h => ?_)
  · obtain ⟨a_book, a_habits_here, a_made, a_hops_here, a_case, hp, rfl, rfl⟩ := h; rfl
  · obtain ⟨a_book, a_habits_here, a_made, a_hops_here, a_case, hp, rfl, rfl⟩ := h; exact ⟨_, _, _, _, b_L_right A O a_book a_habits_here a_made a_hops_here a_case hp, rfl⟩
def N_L_law : List Str := ["_law_script", "_law_base", "_law_persons", "_law_words", "_law_far", "_law_sights_here", "_law_talks_here", "_law_sayings", "_law_cell", "_law_habits_here", "_law_same", "_law_person", "_law_made", "_law_book", "_law_hops_here", "_law_cases", "_law_k", "_law_hour_here", "_law_hop", "_law_told_here", "_law_case"]
def C_L_law : Sc := ⟨9, N_L_law, defScope (top 62), true, true⟩
instance : Calm C_L_law := ⟨rfl⟩
theorem nd_L_law : C_L_law.N.Nodup := by decide +kernel
theorem V_L_law_0 : Var C_L_law 0 "_law_script" := var_of (by decide +kernel)
theorem V_L_law_1 : Var C_L_law 1 "_law_base" := var_of (by decide +kernel)
theorem V_L_law_2 : Var C_L_law 2 "_law_persons" := var_of (by decide +kernel)
theorem V_L_law_3 : Var C_L_law 3 "_law_words" := var_of (by decide +kernel)
theorem V_L_law_4 : Var C_L_law 4 "_law_far" := var_of (by decide +kernel)
theorem V_L_law_5 : Var C_L_law 5 "_law_sights_here" := var_of (by decide +kernel)
theorem V_L_law_6 : Var C_L_law 6 "_law_talks_here" := var_of (by decide +kernel)
theorem V_L_law_7 : Var C_L_law 7 "_law_sayings" := var_of (by decide +kernel)
theorem V_L_law_9 : Var C_L_law 9 "_law_habits_here" := var_of (by decide +kernel)
theorem V_L_law_10 : Var C_L_law 10 "_law_same" := var_of (by decide +kernel)
theorem V_L_law_12 : Var C_L_law 12 "_law_made" := var_of (by decide +kernel)
theorem V_L_law_13 : Var C_L_law 13 "_law_book" := var_of (by decide +kernel)
theorem V_L_law_14 : Var C_L_law 14 "_law_hops_here" := var_of (by decide +kernel)
theorem V_L_law_15 : Var C_L_law 15 "_law_cases" := var_of (by decide +kernel)
theorem V_L_law_16 : Var C_L_law 16 "_law_k" := var_of (by decide +kernel)
theorem V_L_law_17 : Var C_L_law 17 "_law_hour_here" := var_of (by decide +kernel)
theorem V_L_law_18 : Var C_L_law 18 "_law_hop" := var_of (by decide +kernel)
theorem V_L_law_19 : Var C_L_law 19 "_law_told_here" := var_of (by decide +kernel)
theorem V_L_law_20 : Var C_L_law 20 "_law_case" := var_of (by decide +kernel)
theorem S_L_law_1 : Loca C_L_law 1 "_law_base" := loc_of (by decide +kernel)
theorem S_L_law_2 : Loca C_L_law 2 "_law_persons" := loc_of (by decide +kernel)
theorem S_L_law_3 : Loca C_L_law 3 "_law_words" := loc_of (by decide +kernel)
theorem S_L_law_4 : Loca C_L_law 4 "_law_far" := loc_of (by decide +kernel)
theorem S_L_law_5 : Loca C_L_law 5 "_law_sights_here" := loc_of (by decide +kernel)
theorem S_L_law_6 : Loca C_L_law 6 "_law_talks_here" := loc_of (by decide +kernel)
theorem S_L_law_7 : Loca C_L_law 7 "_law_sayings" := loc_of (by decide +kernel)
theorem S_L_law_9 : Loca C_L_law 9 "_law_habits_here" := loc_of (by decide +kernel)
theorem S_L_law_10 : Loca C_L_law 10 "_law_same" := loc_of (by decide +kernel)
theorem S_L_law_12 : Loca C_L_law 12 "_law_made" := loc_of (by decide +kernel)
theorem S_L_law_13 : Loca C_L_law 13 "_law_book" := loc_of (by decide +kernel)
theorem S_L_law_14 : Loca C_L_law 14 "_law_hops_here" := loc_of (by decide +kernel)
theorem S_L_law_15 : Loca C_L_law 15 "_law_cases" := loc_of (by decide +kernel)
theorem S_L_law_16 : Loca C_L_law 16 "_law_k" := loc_of (by decide +kernel)
theorem S_L_law_17 : Loca C_L_law 17 "_law_hour_here" := loc_of (by decide +kernel)
theorem S_L_law_18 : Loca C_L_law 18 "_law_hop" := loc_of (by decide +kernel)
theorem S_L_law_19 : Loca C_L_law 19 "_law_told_here" := loc_of (by decide +kernel)
theorem S_L_law_20 : Loca C_L_law 20 "_law_case" := loc_of (by decide +kernel)
theorem G_L_law_Book : Glo C_L_law "Book" := glo_of (by decide +kernel)
theorem G_L_law__law_cell_at : Glo C_L_law "_law_cell_at" := glo_of (by decide +kernel)
theorem G_L_law__law_habits : Glo C_L_law "_law_habits" := glo_of (by decide +kernel)
theorem G_L_law__law_hops : Glo C_L_law "_law_hops" := glo_of (by decide +kernel)
theorem G_L_law__law_mix : Glo C_L_law "_law_mix" := glo_of (by decide +kernel)
theorem G_L_law__law_names : Glo C_L_law "_law_names" := glo_of (by decide +kernel)
theorem G_L_law__law_right : Glo C_L_law "_law_right" := glo_of (by decide +kernel)
theorem G_L_law__law_sights : Glo C_L_law "_law_sights" := glo_of (by decide +kernel)
theorem G_L_law__law_talks : Glo C_L_law "_law_talks" := glo_of (by decide +kernel)
theorem G_L_law_len : Glo C_L_law "len" := glo_of (by decide +kernel)
theorem G_L_law_max : Glo C_L_law "max" := glo_of (by decide +kernel)
theorem G_L_law_min : Glo C_L_law "min" := glo_of (by decide +kernel)
theorem G_L_law_range : Glo C_L_law "range" := glo_of (by decide +kernel)
theorem G_L_law_sum : Glo C_L_law "sum" := glo_of (by decide +kernel)
theorem b_L_law {G : Cfg} (A : All G) (O : Own) (a_script : (List Int)) (hpre : a_script.length ≤ 63 ∧ LamOk G "earliest_versions" O) : SS G C_L_law (defBody (top 62)) (frame0 N_L_law [(dLo G.K dI) a_script]) O (fnV dB O) (.rt (m_L_law a_script)) := by
  unfold m_L_law
  have hlam := hpre.2
  refine ss_fr70 (Γ1 := [some ((dLo G.K dI) a_script), none, none, none, none, none, none, none, none, none, none, none, none, none, none, none, none, none, none, none, none]) (by exact ⟨.inr rfl, .inl rfl, .inl rfl, .inl rfl, .inl rfl, .inl rfl, .inl rfl, .inl rfl, .inl rfl, .inl rfl, .inl rfl, .inl rfl, .inl rfl, .inl rfl, .inl rfl, .inl rfl, .inl rfl, .inl rfl, .inl rfl, .inl rfl, .inl rfl, trivial⟩) ?_
  have := @cut_len _ a_script none (some (63 : Int))
  refine ss_asg (f := dI) .rt S_L_law_1 (fun _ => rfl) (e_call (k_L_mix A) (by decide) G_L_law__law_mix ⟨(cut a_script none (some (63 : Int))).sum, (1 : Int), (by trivial), rfl, rfl⟩ (a_cons (e_callB (k_sumL ) G_L_law_sum A.b_sum bt_sum (a_cons (en_lst (en_cut (f := dI) (xs := a_script) (e_var V_L_law_0 rfl) eo_none (eo_some e_int))) a_nil (fun _ => rfl)) (fun _ => rfl)) (a_cons e_int a_nil (fun _ => rfl)) (fun _ => rfl)) (fun _ => rfl)) ?_
  intro base_1 hbase_1
  have hbs : 0 ≤ base_1 := by rw [hbase_1]; exact mixV _ _
  refine ss_asg (f := (dLo G.K dS)) .rt S_L_law_2 (fun _ => rfl) (e_call (k_L_names A) (by decide) G_L_law__law_names ⟨base_1, ((2 : Int) + (base_1 % (4 : Int))), (by trivial), rfl, rfl⟩ (a_cons (e_var V_L_law_1 rfl) (a_cons (e_add e_int (e_mod (e_var V_L_law_1 rfl) e_int (by trivial))) a_nil (fun _ => rfl)) (fun _ => rfl)) (fun _ => rfl)) ?_
  intro persons_2 hpersons_2
  have hnp : NamesOk persons_2 := by rw [hpersons_2]; exact namesV_ok _ (by omega)
  have hpl : 2 ≤ persons_2.length ∧ persons_2.length ≤ 6 := by rw [hpersons_2, names61_len]; omega
  have hpl1 : 1 < persons_2.length := by omega
  refine ss_fr70 (Γ1 := [some ((dLo G.K dI) a_script), some (dI base_1), some ((dLo G.K dS) persons_2), none, none, none, none, none, none, none, none, none, none, none, none, none, none, none, none, none, none]) (by exact ⟨.inr rfl, .inr rfl, .inr rfl, .inl rfl, .inl rfl, .inl rfl, .inl rfl, .inl rfl, .inl rfl, .inl rfl, .inl rfl, .inl rfl, .inl rfl, .inl rfl, .inl rfl, .inl rfl, .inl rfl, .inl rfl, .inl rfl, .inl rfl, .inl rfl, trivial⟩) ?_
  refine ss_asg (f := (dLo G.K dS)) .rt S_L_law_3 (fun _ => rfl) (e_call (k_L_names A) (by decide) G_L_law__law_names ⟨(m_L_mix base_1 (2 : Int)), (4 : Int), (by trivial), rfl, rfl⟩ (a_cons (e_call (k_L_mix A) (by decide) G_L_law__law_mix ⟨base_1, (2 : Int), (by trivial), rfl, rfl⟩ (a_cons (e_var V_L_law_1 rfl) (a_cons e_int a_nil (fun _ => rfl)) (fun _ => rfl)) (fun _ => rfl)) (a_cons e_int a_nil (fun _ => rfl)) (fun _ => rfl)) (fun _ => rfl)) ?_
  intro words_3 hwords_3
  have hnw : NamesOk words_3 := by rw [hwords_3]; exact namesV_ok _ (by omega)
  have hwl : words_3.length = 4 := by rw [hwords_3, names61_len]; rfl
  have hc3 : (cut words_3 none (some 3)).length = 3 := cut3V (by omega)
  refine ss_asg (f := dI) .rt S_L_law_4 (fun _ => rfl) (e_mod (e_call (k_L_mix A) (by decide) G_L_law__law_mix ⟨base_1, (3 : Int), (by trivial), rfl, rfl⟩ (a_cons (e_var V_L_law_1 rfl) (a_cons e_int a_nil (fun _ => rfl)) (fun _ => rfl)) (fun _ => rfl)) e_int (by trivial)) ?_
  intro far_4 hfar_4
  have hfar : 0 ≤ far_4 ∧ far_4 ≤ 2 := by rw [hfar_4]; omega
  refine ss_fr70 (Γ1 := [some ((dLo G.K dI) a_script), some (dI base_1), some ((dLo G.K dS) persons_2), some ((dLo G.K dS) words_3), some (dI far_4), none, none, none, none, none, none, none, none, none, none, none, none, none, none, none, none]) (by exact ⟨.inr rfl, .inr rfl, .inr rfl, .inr rfl, .inr rfl, .inl rfl, .inl rfl, .inl rfl, .inl rfl, .inl rfl, .inl rfl, .inl rfl, .inl rfl, .inl rfl, .inl rfl, .inl rfl, .inl rfl, .inl rfl, .inl rfl, .inl rfl, .inl rfl, trivial⟩) ?_
  refine ss_asg (f := (dLo G.K (dT3 G.K dS dI (dVt G.K dS)))) .rt S_L_law_5 (fun _ => rfl) (e_call (k_L_sights A) (by decide) G_L_law__law_sights ⟨(m_L_mix (m_L_cell_at a_script (0 : Int)) (4 : Int)), persons_2, words_3, far_4, (by trivial), rfl, rfl⟩ (a_cons (e_call (k_L_mix A) (by decide) G_L_law__law_mix ⟨(m_L_cell_at a_script (0 : Int)), (4 : Int), (by trivial), rfl, rfl⟩ (a_cons (e_call (k_L_cell_at A) (by decide) G_L_law__law_cell_at ⟨a_script, (0 : Int), (by trivial), rfl, rfl⟩ (a_cons (e_var V_L_law_0 rfl) (a_cons e_int a_nil (fun _ => rfl)) (fun _ => rfl)) (fun _ => rfl)) (a_cons e_int a_nil (fun _ => rfl)) (fun _ => rfl)) (fun _ => rfl)) (a_cons (e_var V_L_law_2 rfl) (a_cons (e_var V_L_law_3 rfl) (a_cons (e_var V_L_law_4 rfl) a_nil (fun _ => rfl)) (fun _ => rfl)) (fun _ => rfl)) (fun _ => rfl)) (fun _ => rfl)) ?_
  intro sights_here_5 hsights_here_5
  have hsg := sightsV (c := m_L_mix (m_L_cell_at a_script 0) 4) (p := persons_2) (by omega) hnw.ok (by omega) hfar
  rw [← hsights_here_5] at hsg
  have hsgl : sights_here_5.length ≤ 4 := hsg.2
  have hsp : 1 ≤ sights_here_5.length := by rw [hsights_here_5]; exact sightsV_pos _ _ _ _
  have := @cut_len _ a_script (some (1 : Int)) (some (19 : Int))
  refine ss_asg (f := (dLo G.K (dT4 G.K dI dS dS dS))) .rt S_L_law_6 (fun _ => rfl) (e_call (k_L_talks A) (by decide) G_L_law__law_talks ⟨(cut a_script (some (1 : Int)) (some (19 : Int))), persons_2, far_4, (by trivial), rfl, rfl⟩ (a_cons (en_lst (en_cut (f := dI) (xs := a_script) (e_var V_L_law_0 rfl) (eo_some e_int) (eo_some e_int))) (a_cons (e_var V_L_law_2 rfl) (a_cons (e_var V_L_law_4 rfl) a_nil (fun _ => rfl)) (fun _ => rfl)) (fun _ => rfl)) (fun _ => rfl)) ?_
  intro talks_here_6 htalks_here_6
  have htk := talksV (cells := cut a_script (some 1) (some 19)) hnp.nd hpl1 hfar
  rw [← htalks_here_6] at htk
  have htkl : talks_here_6.length ≤ 63 := by rw [htk.2]; exact Nat.le_trans cut_len hpre.1
  refine ss_fr70 (Γ1 := [some ((dLo G.K dI) a_script), some (dI base_1), some ((dLo G.K dS) persons_2), some ((dLo G.K dS) words_3), some (dI far_4), some ((dLo G.K (dT3 G.K dS dI (dVt G.K dS))) sights_here_5), some ((dLo G.K (dT4 G.K dI dS dS dS)) talks_here_6), none, none, none, none, none, none, none, none, none, none, none, none, none, none]) (by exact ⟨.inr rfl, .inr rfl, .inr rfl, .inr rfl, .inr rfl, .inr rfl, .inr rfl, .inl rfl, .inl rfl, .inl rfl, .inl rfl, .inl rfl, .inl rfl, .inl rfl, .inl rfl, .inl rfl, .inl rfl, .inl rfl, .inl rfl, .inl rfl, .inl rfl, trivial⟩) ?_
  have := @cut_len _ a_script (some (19 : Int)) (some (25 : Int))
  refine ss_asgLc (f := (dLo G.K (dSy G.K))) .rt S_L_law_7 (swL_of ⟨by decide +kernel, by decide +kernel, rfl, by decide +kernel⟩) (enl_lc (own := [("_law_cell", 8)]) (df := dI) (dg := (dSy G.K)) (xs := (cut a_script (some (19 : Int)) (some (25 : Int)))) (g := fun e_7 => (m_L_saying e_7 persons_2 far_4)) nd_L_law (ei_list (en_lst (en_cut (f := dI) (xs := a_script) (e_var V_L_law_0 rfl) (eo_some e_int) (eo_some e_int)))) (fun _ _ => trivial) (blkOk_by (by decide +kernel)) (fun e_7 => (tj_name (loc_of (i := 8) (by decide +kernel)))) (by decide) (fun e_7 hm_8 _ _ => (e_call (k_L_saying A) (by decide) (glo_of (by decide +kernel)) ⟨e_7, persons_2, far_4, (by trivial), rfl, rfl⟩ (a_cons (e_var (var_of (i := 8) (by decide +kernel)) rfl) (a_cons (e_var (var_of (i := 2) (by decide +kernel)) rfl) (a_cons (e_var (var_of (i := 4) (by decide +kernel)) rfl) a_nil (fun _ => rfl)) (fun _ => rfl)) (fun _ => rfl)) (fun _ => rfl))) (by trivial) (fun _ _ => rfl)) rfl ?_
  intro sayings_10 hsayings_10
  have hsy : ∀ x ∈ sayings_10, m_P_is_saying x persons_2 = true := by rw [hsayings_10]; intro x hx; obtain ⟨c, _, rfl⟩ := List.mem_map.mp hx; exact sayV hnp.nd hpl1 hfar
  have hsyl : sayings_10.length ≤ 60 := by rw [hsayings_10, List.length_map]; have := cut_len2 (xs := a_script) (i := 19) (j := 25) (by omega); omega
  have hgb : goodBook persons_2 sights_here_5 talks_here_6 sayings_10 := goodV_of hnp (by omega) (fun x hx => (hsg.1 x hx).1) htk.1 hsy (by omega) (by omega) hsyl
  have hsayings_10_n : sayings_10.length ≤ ((cut a_script (some (19 : Int)) (some (25 : Int)))).length := by rw [hsayings_10, List.length_map]; exact Nat.le_refl _
  have := @cut_len _ words_3 none (some (3 : Int))
  refine ss_asg (f := (dDc kS (dLo G.K (dT2 G.K dS dS)))) .rt S_L_law_9 (fun _ => rfl) (en_dic (en_call (k_L_habits A) (by decide) G_L_law__law_habits ⟨(m_L_mix base_1 (5 : Int)), persons_2, (cut words_3 none (some (3 : Int))), (by trivial), rfl, rfl⟩ (a_cons (e_call (k_L_mix A) (by decide) G_L_law__law_mix ⟨base_1, (5 : Int), (by trivial), rfl, rfl⟩ (a_cons (e_var V_L_law_1 rfl) (a_cons e_int a_nil (fun _ => rfl)) (fun _ => rfl)) (fun _ => rfl)) (a_cons (e_var V_L_law_2 rfl) (a_cons (en_lst (en_cut (f := dS) (xs := words_3) (e_var V_L_law_3 rfl) eo_none (eo_some e_int))) a_nil (fun _ => rfl)) (fun _ => rfl)) (fun _ => rfl)) (fun _ => rfl))) ?_
  intro habits_here_11 hhabits_here_11
  have hhi : HabIn habits_here_11 (cut words_3 none (some 3)) := by rw [hhabits_here_11]; exact hab_inV (by omega)
  have hho : HabOk habits_here_11 := by rw [hhabits_here_11]; exact hab_okV (by omega)
  have hhl : habits_here_11.length ≤ 10 := by rw [hhabits_here_11]; exact Nat.le_trans hab_lenV (by omega)
  have hhp : HpOk (persons_2, sights_here_5, talks_here_6, sayings_10) habits_here_11 := hpOkV hgb hc3 (fun x hx => (hsg.1 x hx).2) hhi hho (show _ ≤ _ by omega) (show _ ≤ _ by omega)
  refine ss_fr70 (Γ1 := [some ((dLo G.K dI) a_script), some (dI base_1), some ((dLo G.K dS) persons_2), some ((dLo G.K dS) words_3), some (dI far_4), some ((dLo G.K (dT3 G.K dS dI (dVt G.K dS))) sights_here_5), some ((dLo G.K (dT4 G.K dI dS dS dS)) talks_here_6), some ((dLo G.K (dSy G.K)) sayings_10), none, some ((dDc kS (dLo G.K (dT2 G.K dS dS))) habits_here_11), none, none, none, none, none, none, none, none, none, none, none]) (by exact ⟨.inr rfl, .inr rfl, .inr rfl, .inr rfl, .inr rfl, .inr rfl, .inr rfl, .inr rfl, .inl rfl, .inr rfl, .inl rfl, .inl rfl, .inl rfl, .inl rfl, .inl rfl, .inl rfl, .inl rfl, .inl rfl, .inl rfl, .inl rfl, .inl rfl, trivial⟩) ?_
  refine ss_asgLc (f := (dLo G.K (dT2 G.K dS (dLo G.K (dT2 G.K dS dS))))) .rt S_L_law_10 (swL_of ⟨by decide +kernel, by decide +kernel, rfl, by decide +kernel⟩) (enl_lc (own := [("_law_person", 11)]) (df := dS) (dg := (dT2 G.K dS (dLo G.K (dT2 G.K dS dS)))) (xs := (kys habits_here_11)) (g := fun e_12 => (e_12, (dGet habits_here_11 e_12))) nd_L_law (ei_keys (e_var V_L_law_9 rfl)) (fun _ _ => trivial) (blkOk_by (by decide +kernel)) (fun e_12 => (tj_name (loc_of (i := 11) (by decide +kernel)))) (by decide) (fun e_12 hm_13 _ _ => (e_tup (a_cons (e_var (var_of (i := 11) (by decide +kernel)) rfl) (a_cons (en_lst (en_callT k_listL (glo_of (by decide +kernel)) A.b_list bt_list (a_cons (e_getF (f := (dLo G.K (dT2 G.K dS dS))) (kvs := habits_here_11) (fun _ _ => kS_inj) (e_var (var_of (i := 9) (by decide +kernel)) rfl) isK_S (e_var (var_of (i := 11) (by decide +kernel)) rfl) (by trivial) (fun _ _ => rfl)) a_nil (fun _ => rfl)) (fun _ => rfl))) a_nil (fun _ => rfl)) (fun _ => rfl)) (Nat.le_of_ble_eq_true rfl))) (by trivial) (fun _ _ => rfl)) rfl ?_
  intro same_15 hsame_15
  have hsame_15_n : same_15.length ≤ ((kys habits_here_11)).length := by rw [hsame_15, List.length_map]; exact Nat.le_refl _
  refine ss_asg (f := (dBook G)) .rt S_L_law_12 (fun _ => rfl) (e_make (k_P_Book A) (by decide) G_L_law_Book (fun p => ⟨p, _, persons_2, sights_here_5, talks_here_6, sayings_10, (by trivial), rfl, rfl, rfl⟩) (a_cons (e_var V_L_law_2 rfl) (a_cons (e_var V_L_law_5 rfl) (a_cons (e_var V_L_law_6 rfl) (a_cons (e_var V_L_law_7 rfl) a_nil (fun _ => rfl)) (fun _ => rfl)) (fun _ => rfl)) (fun _ => rfl)) (fun _ => rfl)) ?_
  intro made_16 hmade_16
  have hbk : BkOk made_16 := by rw [hmade_16]; exact bk_of hgb
  have hvo : VerOk made_16 habits_here_11 := by rw [hmade_16]; exact verOkV (bk_of hgb) (by omega) hc3 (fun x hx => (hsg.1 x hx).2) hhi
  refine ss_fr70 (Γ1 := [some ((dLo G.K dI) a_script), some (dI base_1), some ((dLo G.K dS) persons_2), some ((dLo G.K dS) words_3), some (dI far_4), some ((dLo G.K (dT3 G.K dS dI (dVt G.K dS))) sights_here_5), some ((dLo G.K (dT4 G.K dI dS dS dS)) talks_here_6), some ((dLo G.K (dSy G.K)) sayings_10), none, some ((dDc kS (dLo G.K (dT2 G.K dS dS))) habits_here_11), some ((dLo G.K (dT2 G.K dS (dLo G.K (dT2 G.K dS dS)))) same_15), none, some ((dBook G) made_16), none, none, none, none, none, none, none, none]) (by exact ⟨.inr rfl, .inr rfl, .inr rfl, .inr rfl, .inr rfl, .inr rfl, .inr rfl, .inr rfl, .inl rfl, .inr rfl, .inr rfl, .inl rfl, .inr rfl, .inl rfl, .inl rfl, .inl rfl, .inl rfl, .inl rfl, .inl rfl, .inl rfl, .inl rfl, trivial⟩) ?_
  refine ss_asg (f := (dT4 G.K (dLo G.K dS) (dLo G.K (dT3 G.K dS dI (dVt G.K dS))) (dLo G.K (dT4 G.K dI dS dS dS)) (dLo G.K (dSy G.K)))) .rt S_L_law_13 (fun _ => rfl) (e_tup (a_cons (e_var V_L_law_2 rfl) (a_cons (e_var V_L_law_5 rfl) (a_cons (e_var V_L_law_6 rfl) (a_cons (e_var V_L_law_7 rfl) a_nil (fun _ => rfl)) (fun _ => rfl)) (fun _ => rfl)) (fun _ => rfl)) (Nat.le_of_ble_eq_true rfl)) ?_
  intro book_17 hbook_17
  have hhp2 : HpOk book_17 habits_here_11 := by rw [hbook_17]; exact hhp
  refine ss_asg (f := (dLo G.K (dT3 G.K dI (dT4 G.K dI dS dS (dVt G.K dS)) (dVt G.K dS)))) .rt S_L_law_14 (fun _ => rfl) (e_call (k_L_hops A) (by decide) G_L_law__law_hops ⟨book_17, habits_here_11, (by trivial), rfl, rfl⟩ (a_cons (e_var V_L_law_13 rfl) (a_cons (e_var V_L_law_9 rfl) a_nil (fun _ => rfl)) (fun _ => rfl)) (fun _ => rfl)) ?_
  intro hops_here_18 hhops_here_18
  have hhl2 : hops_here_18.length ≤ 12000 := by rw [hhops_here_18]; exact lhops_len hhp2
  have him := @imin_leM 4 (hops_here_18.length : Int)
  refine ss_fr70 (Γ1 := [some ((dLo G.K dI) a_script), some (dI base_1), some ((dLo G.K dS) persons_2), some ((dLo G.K dS) words_3), some (dI far_4), some ((dLo G.K (dT3 G.K dS dI (dVt G.K dS))) sights_here_5), some ((dLo G.K (dT4 G.K dI dS dS dS)) talks_here_6), some ((dLo G.K (dSy G.K)) sayings_10), none, some ((dDc kS (dLo G.K (dT2 G.K dS dS))) habits_here_11), some ((dLo G.K (dT2 G.K dS (dLo G.K (dT2 G.K dS dS)))) same_15), none, some ((dBook G) made_16), some ((dT4 G.K (dLo G.K dS) (dLo G.K (dT3 G.K dS dI (dVt G.K dS))) (dLo G.K (dT4 G.K dI dS dS dS)) (dLo G.K (dSy G.K))) book_17), some ((dLo G.K (dT3 G.K dI (dT4 G.K dI dS dS (dVt G.K dS)) (dVt G.K dS))) hops_here_18), none, none, none, none, none, none]) (by exact ⟨.inr rfl, .inr rfl, .inr rfl, .inr rfl, .inr rfl, .inr rfl, .inr rfl, .inr rfl, .inl rfl, .inr rfl, .inr rfl, .inl rfl, .inr rfl, .inr rfl, .inr rfl, .inl rfl, .inl rfl, .inl rfl, .inl rfl, .inl rfl, .inl rfl, trivial⟩) ?_
  refine ss_new (od := oLst (([((nth persons_2 (0 : Int)), (nth sights_here_5 (0 : Int)).2.2, (1000000000000000000 : Int)), ((nth persons_2 (-(1 : Int))), [(nth words_3 (3 : Int))], (1000000000000000000 : Int))]).map (dT3 G.K dS (dVt G.K dS) dI))) S_L_law_15 (fun _ => rfl) (en_list (ds := [(dT3 G.K dS (dVt G.K dS) dI) ((nth persons_2 (0 : Int)), (nth sights_here_5 (0 : Int)).2.2, (1000000000000000000 : Int)), (dT3 G.K dS (dVt G.K dS) dI) ((nth persons_2 (-(1 : Int))), [(nth words_3 (3 : Int))], (1000000000000000000 : Int))]) (a_cons (e_tup (a_cons (e_nthL (f := dS) (xs := persons_2) (e_var V_L_law_2 rfl) e_int (by trivial) (fun _ _ => rfl)) (a_cons (e_ixT (i := (2 : Int)) rfl (e_nthL (f := (dT3 G.K dS dI (dVt G.K dS))) (xs := sights_here_5) (e_var V_L_law_5 rfl) e_int (by trivial) (fun _ _ => rfl)) e_int (fun _ _ => rfl)) (a_cons (e_powC 1000000000000000000 e_int e_int (by decide +kernel)) a_nil (fun _ => rfl)) (fun _ => rfl)) (fun _ => rfl)) (Nat.le_of_ble_eq_true rfl)) (a_cons (e_tup (a_cons (e_nthL (f := dS) (xs := persons_2) (e_var V_L_law_2 rfl) (e_neg e_int) (by trivial) (fun _ _ => rfl)) (a_cons (e_tup (ds := [dS (nth words_3 (3 : Int))]) (a_cons (e_nthL (f := dS) (xs := words_3) (e_var V_L_law_3 rfl) e_int (by trivial) (fun _ _ => rfl)) a_nil (fun _ => rfl)) (Nat.le_of_ble_eq_true rfl)) (a_cons (e_powC 1000000000000000000 e_int e_int (by decide +kernel)) a_nil (fun _ => rfl)) (fun _ => rfl)) (fun _ => rfl)) (Nat.le_of_ble_eq_true rfl)) a_nil (fun _ => rfl)) (fun _ => rfl)) (Nat.le_of_ble_eq_true rfl)) ?_
  intro p_cases_19
  refine ss_fold (Γ := [some ((dLo G.K dI) a_script), some (dI base_1), some ((dLo G.K dS) persons_2), some ((dLo G.K dS) words_3), some (dI far_4), some ((dLo G.K (dT3 G.K dS dI (dVt G.K dS))) sights_here_5), some ((dLo G.K (dT4 G.K dI dS dS dS)) talks_here_6), some ((dLo G.K (dSy G.K)) sayings_10), none, some ((dDc kS (dLo G.K (dT2 G.K dS dS))) habits_here_11), some ((dLo G.K (dT2 G.K dS (dLo G.K (dT2 G.K dS dS)))) same_15), none, some ((dBook G) made_16), some ((dT4 G.K (dLo G.K dS) (dLo G.K (dT3 G.K dS dI (dVt G.K dS))) (dLo G.K (dT4 G.K dI dS dS dS)) (dLo G.K (dSy G.K))) book_17), some ((dLo G.K (dT3 G.K dI (dT4 G.K dI dS dS (dVt G.K dS)) (dVt G.K dS))) hops_here_18), some (dP p_cases_19), none, none, none, none, none]) (df := dI) (s0 := [((nth persons_2 (0 : Int)), (nth sights_here_5 (0 : Int)).2.2, (1000000000000000000 : Int)), ((nth persons_2 (-(1 : Int))), [(nth words_3 (3 : Int))], (1000000000000000000 : Int))]) .rt (fun s_21 : (List (Str × (List Str) × Int)) => [some ((dLo G.K dI) a_script), some (dI base_1), some ((dLo G.K dS) persons_2), some ((dLo G.K dS) words_3), some (dI far_4), some ((dLo G.K (dT3 G.K dS dI (dVt G.K dS))) sights_here_5), some ((dLo G.K (dT4 G.K dI dS dS dS)) talks_here_6), some ((dLo G.K (dSy G.K)) sayings_10), none, some ((dDc kS (dLo G.K (dT2 G.K dS dS))) habits_here_11), some ((dLo G.K (dT2 G.K dS (dLo G.K (dT2 G.K dS dS)))) same_15), none, some ((dBook G) made_16), some ((dT4 G.K (dLo G.K dS) (dLo G.K (dT3 G.K dS dI (dVt G.K dS))) (dLo G.K (dT4 G.K dI dS dS dS)) (dLo G.K (dSy G.K))) book_17), some ((dLo G.K (dT3 G.K dI (dT4 G.K dI dS dS (dVt G.K dS)) (dVt G.K dS))) hops_here_18), some (dP p_cases_19), none, none, none, none, none]) (fun (s_21 : (List (Str × (List Str) × Int))) (x_22 : Int) => ([some ((dLo G.K dI) a_script), some (dI base_1), some ((dLo G.K dS) persons_2), some ((dLo G.K dS) words_3), some (dI far_4), some ((dLo G.K (dT3 G.K dS dI (dVt G.K dS))) sights_here_5), some ((dLo G.K (dT4 G.K dI dS dS dS)) talks_here_6), some ((dLo G.K (dSy G.K)) sayings_10), none, some ((dDc kS (dLo G.K (dT2 G.K dS dS))) habits_here_11), some ((dLo G.K (dT2 G.K dS (dLo G.K (dT2 G.K dS dS)))) same_15), none, some ((dBook G) made_16), some ((dT4 G.K (dLo G.K dS) (dLo G.K (dT3 G.K dS dI (dVt G.K dS))) (dLo G.K (dT4 G.K dI dS dS dS)) (dLo G.K (dSy G.K))) book_17), some ((dLo G.K (dT3 G.K dI (dT4 G.K dI dS dS (dVt G.K dS)) (dVt G.K dS))) hops_here_18), some (dP p_cases_19), none, none, none, none, none]).set 16 (some (dI x_22))) (fun s_21 : (List (Str × (List Str) × Int)) => ((p_cases_19, oLst (s_21.map (dT3 G.K dS (dVt G.K dS) dI))) :: O)) (ei_range G_L_law_range A.b_range (e_callB k_min2 G_L_law_min A.b_min bt_min (a_cons e_int (a_cons (e_callB (k_lenLo (xs := hops_here_18) (f := (dT3 G.K dI (dT4 G.K dI dS dS (dVt G.K dS)) (dVt G.K dS)))) G_L_law_len A.b_len bt_len (a_cons (e_var V_L_law_14 rfl) a_nil (fun _ => rfl)) (fun _ => rfl)) a_nil (fun _ => rfl)) (fun _ => rfl)) (fun _ => rfl)) (by first | omega | trivial) (fun _ => rfl)) (by exact ⟨.inr rfl, .inr rfl, .inr rfl, .inr rfl, .inr rfl, .inr rfl, .inr rfl, .inr rfl, .inl rfl, .inr rfl, .inr rfl, .inl rfl, .inr rfl, .inr rfl, .inr rfl, .inr rfl, .inl rfl, .inl rfl, .inl rfl, .inl rfl, .inl rfl, trivial⟩) rfl (fun _ => trivial) (fun s_21 x_22 => (tj_name S_L_law_16)) ?_ ?_ (fun _ _ => rfl)
  ·
    intro s_21 x_22 pre_23 post_24 hs_25 hf_26
    have hm_27 : x_22 ∈ (upto (imin (4 : Int) (hops_here_18.length : Int))) := by rw [hs_25]; simp
    have := mem_upto hm_27
    have hpl_28 : pre_23.length < ((upto (imin (4 : Int) (hops_here_18.length : Int)))).length := by rw [hs_25, List.length_append, List.length_cons]; omega
    rw [upto_len] at hpl_28
    have hgrow_29 : (s_21).length ≤ ([((nth persons_2 (0 : Int)), (nth sights_here_5 (0 : Int)).2.2, (1000000000000000000 : Int)), ((nth persons_2 (-(1 : Int))), [(nth words_3 (3 : Int))], (1000000000000000000 : Int))]).length + 1 * pre_23.length := by
      rw [hf_26]
      refine foldl_meas (m := fun s_21 : (List (Str × (List Str) × Int)) => (s_21).length) ?_ (s0 := [((nth persons_2 (0 : Int)), (nth sights_here_5 (0 : Int)).2.2, (1000000000000000000 : Int)), ((nth persons_2 (-(1 : Int))), [(nth words_3 (3 : Int))], (1000000000000000000 : Int))])
      intro _ _
      first | exact app_le | exact putIf_len | (simp only [lt]; exact dPut_len) | (simp only [lt]; split <;> first | exact dPut_len | omega) | ((try simp only [lt]); (repeat' split) <;> first | exact dPut_len | exact Nat.le_succ _) | (simp only [lt, slen_app, signAt_len, List.length_append, List.length_cons, List.length_nil]; omega) | ((try simp only [lt]); (repeat' split) <;> ((try simp only [lt, slen_app, signAt_len, List.length_append, List.length_cons, List.length_nil]); omega))
    refine ss_unp (d := (dT3 G.K dI (dT4 G.K dI dS dS (dVt G.K dS)) (dVt G.K dS)) (nth hops_here_18 ((m_L_mix base_1 ((30 : Int) + x_22)) % (hops_here_18.length : Int)))) (e_nthL (f := (dT3 G.K dI (dT4 G.K dI dS dS (dVt G.K dS)) (dVt G.K dS))) (xs := hops_here_18) (e_var V_L_law_14 rfl) (e_mod (e_call (k_L_mix A) (by decide) G_L_law__law_mix ⟨base_1, ((30 : Int) + x_22), (by trivial), rfl, rfl⟩ (a_cons (e_var V_L_law_1 rfl) (a_cons (e_add e_int (e_var V_L_law_16 rfl)) a_nil (fun _ => rfl)) (fun _ => rfl)) (fun _ => rfl)) (e_callB (k_lenLo (xs := hops_here_18) (f := (dT3 G.K dI (dT4 G.K dI dS dS (dVt G.K dS)) (dVt G.K dS)))) G_L_law_len A.b_len bt_len (a_cons (e_var V_L_law_14 rfl) a_nil (fun _ => rfl)) (fun _ => rfl)) (by trivial)) (by trivial) (fun _ _ => rfl)) (tj_tup (tjs_cons (tj_name S_L_law_17) (tjs_cons (tj_name S_L_law_18) (tjs_cons (tj_name S_L_law_19) tjs_nil (fun _ => rfl)) (fun _ => rfl)) (fun _ => rfl)) (fun _ => rfl) (fun _ => rfl)) (fun _ => rfl) (fun _ => rfl) (fun _ => rfl) ?_
    refine ss_app (f := (dT3 G.K dS (dVt G.K dS) dI)) (xs := s_21) (y := (((nth hops_here_18 ((m_L_mix base_1 ((30 : Int) + x_22)) % (hops_here_18.length : Int))).2.1).2.2.1, (nth hops_here_18 ((m_L_mix base_1 ((30 : Int) + x_22)) % (hops_here_18.length : Int))).2.2, (nth ([(nth hops_here_18 ((m_L_mix base_1 ((30 : Int) + x_22)) % (hops_here_18.length : Int))).1, (imax (0 : Int) ((nth hops_here_18 ((m_L_mix base_1 ((30 : Int) + x_22)) % (hops_here_18.length : Int))).1 - (1 : Int))), (1000000000000000000 : Int)]) ((m_L_mix base_1 ((40 : Int) + x_22)) % (3 : Int))))) (n := 0) .nx rfl (e_var V_L_law_15 rfl) (e_tup (a_cons (e_ixT (i := (2 : Int)) rfl (e_var V_L_law_18 rfl) e_int (fun _ _ => rfl)) (a_cons (e_var V_L_law_19 rfl) (a_cons (e_nthL (f := dI) (xs := [(nth hops_here_18 ((m_L_mix base_1 ((30 : Int) + x_22)) % (hops_here_18.length : Int))).1, (imax (0 : Int) ((nth hops_here_18 ((m_L_mix base_1 ((30 : Int) + x_22)) % (hops_here_18.length : Int))).1 - (1 : Int))), (1000000000000000000 : Int)]) (en_lst (en_list (ds := [dI ((nth hops_here_18 ((m_L_mix base_1 ((30 : Int) + x_22)) % (hops_here_18.length : Int))).1), dI (imax (0 : Int) ((nth hops_here_18 ((m_L_mix base_1 ((30 : Int) + x_22)) % (hops_here_18.length : Int))).1 - (1 : Int))), dI (1000000000000000000 : Int)]) (a_cons (e_var V_L_law_17 rfl) (a_cons (e_callB k_max2 G_L_law_max A.b_max bt_max (a_cons e_int (a_cons (e_sub (e_var V_L_law_17 rfl) e_int) a_nil (fun _ => rfl)) (fun _ => rfl)) (fun _ => rfl)) (a_cons (e_powC 1000000000000000000 e_int e_int (by decide +kernel)) a_nil (fun _ => rfl)) (fun _ => rfl)) (fun _ => rfl)) (Nat.le_of_ble_eq_true rfl))) (e_mod (e_call (k_L_mix A) (by decide) G_L_law__law_mix ⟨base_1, ((40 : Int) + x_22), (by trivial), rfl, rfl⟩ (a_cons (e_var V_L_law_1 rfl) (a_cons (e_add e_int (e_var V_L_law_16 rfl)) a_nil (fun _ => rfl)) (fun _ => rfl)) (fun _ => rfl)) e_int (by trivial)) (inR_len (m := 3) rfl (by trivial)) (fun _ _ => rfl)) a_nil (fun _ => rfl)) (fun _ => rfl)) (fun _ => rfl)) (Nat.le_of_ble_eq_true rfl)) (by trivial) (fun _ => rfl) rfl (fun _ => rfl) ?_
    intro cases_30 hcases_30
    have hcases_30_l : cases_30.length = (s_21).length + 1 := by rw [hcases_30, List.length_append]; rfl
    exact ss_end (hold_end (by exact ⟨.inr rfl, .inr rfl, .inr rfl, .inr rfl, .inr rfl, .inr rfl, .inr rfl, .inr rfl, .inl rfl, .inr rfl, .inr rfl, .inl rfl, .inr rfl, .inr rfl, .inr rfl, .inr rfl, .inl rfl, .inl rfl, .inl rfl, .inl rfl, .inl rfl, trivial⟩))
  intro s_21 he_L0
  have hgrow_47 : (s_21).length ≤ ([((nth persons_2 (0 : Int)), (nth sights_here_5 (0 : Int)).2.2, (1000000000000000000 : Int)), ((nth persons_2 (-(1 : Int))), [(nth words_3 (3 : Int))], (1000000000000000000 : Int))]).length + 1 * ((upto (imin (4 : Int) (hops_here_18.length : Int)))).length := by
    rw [he_L0]
    refine foldl_meas (m := fun s_21 : (List (Str × (List Str) × Int)) => (s_21).length) ?_ (s0 := [((nth persons_2 (0 : Int)), (nth sights_here_5 (0 : Int)).2.2, (1000000000000000000 : Int)), ((nth persons_2 (-(1 : Int))), [(nth words_3 (3 : Int))], (1000000000000000000 : Int))])
    intro _ _
    first | exact app_le | exact putIf_len | (simp only [lt]; exact dPut_len) | (simp only [lt]; split <;> first | exact dPut_len | omega) | ((try simp only [lt]); (repeat' split) <;> first | exact dPut_len | exact Nat.le_succ _) | (simp only [lt, slen_app, signAt_len, List.length_append, List.length_cons, List.length_nil]; omega) | ((try simp only [lt]); (repeat' split) <;> ((try simp only [lt, slen_app, signAt_len, List.length_append, List.length_cons, List.length_nil]); omega))
  rw [upto_len] at hgrow_47
  refine ss_freeze (G := G) (i := 15) rfl ?_
  refine ss_fr70 (Γ1 := [some ((dLo G.K dI) a_script), some (dI base_1), some ((dLo G.K dS) persons_2), some ((dLo G.K dS) words_3), some (dI far_4), some ((dLo G.K (dT3 G.K dS dI (dVt G.K dS))) sights_here_5), some ((dLo G.K (dT4 G.K dI dS dS dS)) talks_here_6), some ((dLo G.K (dSy G.K)) sayings_10), none, some ((dDc kS (dLo G.K (dT2 G.K dS dS))) habits_here_11), some ((dLo G.K (dT2 G.K dS (dLo G.K (dT2 G.K dS dS)))) same_15), none, some ((dBook G) made_16), some ((dT4 G.K (dLo G.K dS) (dLo G.K (dT3 G.K dS dI (dVt G.K dS))) (dLo G.K (dT4 G.K dI dS dS dS)) (dLo G.K (dSy G.K))) book_17), some ((dLo G.K (dT3 G.K dI (dT4 G.K dI dS dS (dVt G.K dS)) (dVt G.K dS))) hops_here_18), some ((dLo G.K (dT3 G.K dS (dVt G.K dS) dI)) s_21), none, none, none, none, none]) (by exact ⟨.inr rfl, .inr rfl, .inr rfl, .inr rfl, .inr rfl, .inr rfl, .inr rfl, .inr rfl, .inl rfl, .inr rfl, .inr rfl, .inl rfl, .inr rfl, .inr rfl, .inr rfl, .inr rfl, .inl rfl, .inl rfl, .inl rfl, .inl rfl, .inl rfl, trivial⟩) ?_
  refine ss_loop (Γ := [some ((dLo G.K dI) a_script), some (dI base_1), some ((dLo G.K dS) persons_2), some ((dLo G.K dS) words_3), some (dI far_4), some ((dLo G.K (dT3 G.K dS dI (dVt G.K dS))) sights_here_5), some ((dLo G.K (dT4 G.K dI dS dS dS)) talks_here_6), some ((dLo G.K (dSy G.K)) sayings_10), none, some ((dDc kS (dLo G.K (dT2 G.K dS dS))) habits_here_11), some ((dLo G.K (dT2 G.K dS (dLo G.K (dT2 G.K dS dS)))) same_15), none, some ((dBook G) made_16), some ((dT4 G.K (dLo G.K dS) (dLo G.K (dT3 G.K dS dI (dVt G.K dS))) (dLo G.K (dT4 G.K dI dS dS dS)) (dLo G.K (dSy G.K))) book_17), some ((dLo G.K (dT3 G.K dI (dT4 G.K dI dS dS (dVt G.K dS)) (dVt G.K dS))) hops_here_18), some ((dLo G.K (dT3 G.K dS (dVt G.K dS) dI)) s_21), none, none, none, none, none]) (df := (dT3 G.K dS (dVt G.K dS) dI)) (s0 := ()) (fun s_31 : Unit => [some ((dLo G.K dI) a_script), some (dI base_1), some ((dLo G.K dS) persons_2), some ((dLo G.K dS) words_3), some (dI far_4), some ((dLo G.K (dT3 G.K dS dI (dVt G.K dS))) sights_here_5), some ((dLo G.K (dT4 G.K dI dS dS dS)) talks_here_6), some ((dLo G.K (dSy G.K)) sayings_10), none, some ((dDc kS (dLo G.K (dT2 G.K dS dS))) habits_here_11), some ((dLo G.K (dT2 G.K dS (dLo G.K (dT2 G.K dS dS)))) same_15), none, some ((dBook G) made_16), some ((dT4 G.K (dLo G.K dS) (dLo G.K (dT3 G.K dS dI (dVt G.K dS))) (dLo G.K (dT4 G.K dI dS dS dS)) (dLo G.K (dSy G.K))) book_17), some ((dLo G.K (dT3 G.K dI (dT4 G.K dI dS dS (dVt G.K dS)) (dVt G.K dS))) hops_here_18), some ((dLo G.K (dT3 G.K dS (dVt G.K dS) dI)) s_21), none, none, none, none, none]) (fun (s_31 : Unit) (x_32 : (Str × (List Str) × Int)) => ([some ((dLo G.K dI) a_script), some (dI base_1), some ((dLo G.K dS) persons_2), some ((dLo G.K dS) words_3), some (dI far_4), some ((dLo G.K (dT3 G.K dS dI (dVt G.K dS))) sights_here_5), some ((dLo G.K (dT4 G.K dI dS dS dS)) talks_here_6), some ((dLo G.K (dSy G.K)) sayings_10), none, some ((dDc kS (dLo G.K (dT2 G.K dS dS))) habits_here_11), some ((dLo G.K (dT2 G.K dS (dLo G.K (dT2 G.K dS dS)))) same_15), none, some ((dBook G) made_16), some ((dT4 G.K (dLo G.K dS) (dLo G.K (dT3 G.K dS dI (dVt G.K dS))) (dLo G.K (dT4 G.K dI dS dS dS)) (dLo G.K (dSy G.K))) book_17), some ((dLo G.K (dT3 G.K dI (dT4 G.K dI dS dS (dVt G.K dS)) (dVt G.K dS))) hops_here_18), some ((dLo G.K (dT3 G.K dS (dVt G.K dS) dI)) s_21), none, none, none, none, none]).set 20 (some ((dT3 G.K dS (dVt G.K dS) dI) x_32))) (fun s_31 : Unit => O) (ei_list (e_var V_L_law_15 rfl)) (by exact ⟨.inr rfl, .inr rfl, .inr rfl, .inr rfl, .inr rfl, .inr rfl, .inr rfl, .inr rfl, .inl rfl, .inr rfl, .inr rfl, .inl rfl, .inr rfl, .inr rfl, .inr rfl, .inr rfl, .inl rfl, .inl rfl, .inl rfl, .inl rfl, .inl rfl, trivial⟩) rfl (fun _ => trivial) (fun s_31 x_32 => (tj_name S_L_law_20)) ?_ ?_ (fun _ _ => rfl)
  ·
    intro s_31 x_32 pre_33 post_34 hs_35 hf_36
    have hm_37 : x_32 ∈ s_21 := by rw [hs_35]; simp
    have hpl_38 : pre_33.length < (s_21).length := by rw [hs_35, List.length_append, List.length_cons]; omega
    refine ss_if Ret.out (t_not (t_val (e_call (k_L_right A) (by decide) G_L_law__law_right ⟨book_17, habits_here_11, made_16, hops_here_18, x_32, (by trivial), rfl, rfl⟩ (a_cons (e_var V_L_law_13 rfl) (a_cons (e_var V_L_law_9 rfl) (a_cons (e_var V_L_law_12 rfl) (a_cons (e_var V_L_law_14 rfl) (a_cons (e_var V_L_law_20 rfl) a_nil (fun _ => rfl)) (fun _ => rfl)) (fun _ => rfl)) (fun _ => rfl)) (fun _ => rfl)) (fun _ => rfl)) (fun _ _ => rfl))) (fun hc_39 => ?_) (fun hc_39 => ?_)
    ·
      exact ss_ret e_bool (fun _ _ _ h => h)
    ·
      exact ss_end (hold_end (by exact ⟨.inr rfl, .inr rfl, .inr rfl, .inr rfl, .inr rfl, .inr rfl, .inr rfl, .inr rfl, .inl rfl, .inr rfl, .inr rfl, .inl rfl, .inr rfl, .inr rfl, .inr rfl, .inr rfl, .inl rfl, .inl rfl, .inl rfl, .inl rfl, .inl rfl, trivial⟩))
  intro s_31 he_L1
  exact ss_ret (d := dB (decide (((kys habits_here_11).map fun e_40 => (e_40, (dGet habits_here_11 e_40))) = same_15))) (e_cmp (c_eqDat (f := (dLo G.K (dT2 G.K dS (dLo G.K (dT2 G.K dS dS))))) (a := ((kys habits_here_11).map fun e_40 => (e_40, (dGet habits_here_11 e_40)))) (b := same_15) (dat_lst (dat_t2 (Dat.up dat_str (m := 2) (by decide)) (dat_lst (dat_t2 dat_str dat_str)))) (by decide)) (en_lst (en_lc (own := [("_law_person", 11)]) (df := dS) (dg := (dT2 G.K dS (dLo G.K (dT2 G.K dS dS)))) (xs := (kys habits_here_11)) (g := fun e_40 => (e_40, (dGet habits_here_11 e_40))) nd_L_law (ei_keys (e_var V_L_law_9 rfl)) (fun _ _ => trivial) (blkOk_by (by decide +kernel)) (fun e_40 => (tj_name (loc_of (i := 11) (by decide +kernel)))) (by decide) (fun e_40 hm_41 _ _ => (e_tup (a_cons (e_var (var_of (i := 11) (by decide +kernel)) rfl) (a_cons (e_getF (f := (dLo G.K (dT2 G.K dS dS))) (kvs := habits_here_11) (fun _ _ => kS_inj) (e_var (var_of (i := 9) (by decide +kernel)) rfl) isK_S (e_var (var_of (i := 11) (by decide +kernel)) rfl) (by trivial) (fun _ _ => rfl)) a_nil (fun _ => rfl)) (fun _ => rfl)) (Nat.le_of_ble_eq_true rfl))) (by trivial) (fun _ _ => rfl))) (e_var V_L_law_10 rfl) rfl) (fun _ _ _ h => h)
end Kn
namespace Kn
open PySem PySem.Spec L2
theorem get_put {s : List (Str × Option Int)} {k j : Str} {v : Option Int} : dGet (dPut s k v) j = if j = k then v else dGet s j := by
  unfold dGet
  rw [find_put]
  by_cases h : j = k
  · rw [if_pos h, if_pos h]; rfl
  · rw [if_neg h, if_neg h]
theorem first_fold {x : Str} : ∀ {l : List Str} {s0 : List (Str × Option Int)}, (x ∈ l ∨ dGet s0 x = some (-1)) → dGet (l.foldl (fun s y => dPut s y (some (-1))) s0) x = some (-1)
  | [], _, h => h.elim (fun z => nomatch z) id
  | y :: l, s0, h => by
    refine first_fold (l := l) ?_
    rw [get_put]
    by_cases e : x = y
    · rw [if_pos e]; exact .inr rfl
    · rw [if_neg e]
      rcases h with h | h
      · exact (List.mem_cons.mp h).elim (fun z => absurd z e) .inl
      · exact .inr h
theorem second_fold {x : Str} : ∀ {l : List Sy} {s0 : List (Str × Option Int)}, dGet (l.foldl (fun s y => if decide (y.kd = ("unheard" : Str)) = true then dPut s y.who (m_P_greater_floor (dGet s y.who) y.ho) else s) s0) x =
    ((l.filter fun e => (decide (e.kd = ("unheard" : Str))) && (decide (e.who = x))).map fun e => e.ho).foldl m_P_greater_floor (dGet s0 x)
  | [], _ => rfl
  | y :: l, s0 => by
    rw [List.foldl_cons, second_fold (l := l), List.filter_cons]
    by_cases h : y.kd = ("unheard" : Str)
    · rw [if_pos (decide_eq_true h), get_put, decide_eq_true h, Bool.true_and]
      by_cases e : y.who = x
      · rw [decide_eq_true e, if_pos e.symm, if_pos rfl, List.map_cons, List.foldl_cons, e]
      · rw [decide_eq_false e, if_neg fun z => e z.symm, if_neg Bool.false_ne_true]
    · rw [decide_eq_false h, Bool.false_and, if_neg Bool.false_ne_true, if_neg Bool.false_ne_true]
theorem gf_none : ∀ l : List (Option Int), l.foldl m_P_greater_floor none = none
  | [] => rfl
  | y :: l => by rw [List.foldl_cons]; exact gf_none l
theorem gf_fold : ∀ (l : List (Option Int)) (a : Int), l.foldl m_P_greater_floor (some a) = if none ∈ l then none else some (lmax (getO ([some a] ++ l)))
  | [], a => by rw [if_neg (by simp)]; rfl
  | none :: l, a => by
    rw [List.foldl_cons, if_pos List.mem_cons_self]
    exact gf_none l
  | some b :: l, a => by
    have e : m_P_greater_floor (some a) (some b) = some (imax a b) := rfl
    rw [List.foldl_cons, e, gf_fold l]
    have e2 : (none ∈ some b :: l) ↔ none ∈ l := by simp
    by_cases h : none ∈ l
    · rw [if_pos h, if_pos (e2.mpr h)]
    · rw [if_neg h, if_neg fun z => h (e2.mp z)]
      rfl
def hoursOf (x : Str) (y : List Sy) : List (Option Int) := (y.filter fun e => (decide (e.kd = ("unheard" : Str))) && (decide (e.who = x))).map fun e => e.ho
theorem floors_get {p : List Str} {s : List Sight} {t : List Talk} {y : List Sy} {x : Str} (hx : x ∈ p) : dGet (m_P_floors (m_P_Book p s t y)) x = if none ∈ hoursOf x y then none else some (lmax (getO ([some (-1)] ++ hoursOf x y))) := by
  have h1 : dGet (m_P_floors (m_P_Book p s t y)) x = dGet (y.foldl (fun s y => if decide (y.kd = ("unheard" : Str)) = true then dPut s y.who (m_P_greater_floor (dGet s y.who) y.ho) else s) (p.foldl (fun s y => dPut s y (some (-1))) [])) x := rfl
  rw [h1, second_fold, first_fold (.inl hx), gf_fold]
  rfl
theorem dFind_app {α : Type} {kvs : List (Str × List α)} {k j : Str} {y : List α} (h : dHas kvs k = false) : dFind (kvs ++ [(k, y)]) j = if j = k then some y else dFind kvs j := by
  have e := find_put (kvs := kvs) (k := k) (j := j) (v := y)
  unfold dPut at e
  rw [h, if_neg Bool.false_ne_true] at e
  exact e
theorem dFind_map {α : Type} {k j : Str} {y : α} : ∀ {kvs : List (Str × List α)}, dFind (kvs.map (fun q => if q.1 = k then (q.1, q.2 ++ [y]) else q)) j = if j = k then (dFind kvs k).map (· ++ [y]) else dFind kvs j
  | [] => by simp [dFind]
  | q :: kvs => by
    have ih := dFind_map (k := k) (j := j) (y := y) (kvs := kvs)
    rw [List.map_cons, dFind, dFind, dFind, ih]
    by_cases e : q.1 = k
    · rw [if_pos e, if_pos e]
      by_cases e2 : j = k
      · rw [if_pos (e.trans e2.symm), if_pos e2]; rfl
      · have e3 : ¬ q.1 = j := fun z => e2 (z.symm.trans e)
        rw [if_neg e3, if_neg e2, if_neg e2, if_neg e3]
    · rw [if_neg e, if_neg e]
      by_cases e2 : j = k
      · rw [if_neg (fun z => e (z.trans e2)), if_pos e2, if_pos e2]
      · by_cases e3 : q.1 = j
        · rw [if_pos e3, if_neg e2, if_pos e3]
        · rw [if_neg e3, if_neg e2, if_neg e2, if_neg e3]
theorem find_dApp {α : Type} {kvs : List (Str × List α)} {k j : Str} {y : α} : (dFind (dApp kvs k y) j).getD [] = if j = k then (dFind kvs k).getD [] ++ [y] else (dFind kvs j).getD [] := by
  cases hh : dHas kvs k with
  | false =>
    have hn : dFind kvs k = none := by
      rw [dHas_find] at hh
      cases q : dFind kvs k with
      | none => rfl
      | some z => rw [q] at hh; cases hh
    rw [dApp_new hh, dFind_app hh]
    by_cases e : j = k
    · rw [if_pos e, if_pos e, hn]; rfl
    · rw [if_neg e, if_neg e]
  | true =>
    unfold dApp
    rw [if_pos hh, dFind_map]
    by_cases e : j = k
    · rw [if_pos e, if_pos e]
      rw [dHas_find, Option.isSome_iff_exists] at hh
      obtain ⟨z, hz⟩ := hh
      rw [hz]; rfl
    · rw [if_neg e, if_neg e]
def spansIn (y : List Sy) (p : Str) : List (Int × Int) := (y.filter fun x => decide (x.kd = ("silent" : Str)) && decide (x.who = p)).map fun x => (x.h1, x.h2)
theorem spans_fold {p : Str} : ∀ {y : List Sy} {s0 : List (Str × List (Int × Int))}, (dFind (y.foldl (fun s x => if decide (x.kd = ("silent" : Str)) = true then dApp s x.who (x.h1, x.h2) else s) s0) p).getD [] = (dFind s0 p).getD [] ++ spansIn y p
  | [], s0 => by simp [spansIn]
  | x :: y, s0 => by
    rw [List.foldl_cons, spans_fold]
    unfold spansIn
    rw [List.filter_cons]
    by_cases h : x.kd = ("silent" : Str)
    · rw [decide_eq_true h, if_pos rfl, find_dApp, Bool.true_and]
      by_cases e : x.who = p
      · rw [decide_eq_true e, if_pos e.symm, if_pos rfl, List.map_cons, List.append_assoc, e]
        rfl
      · rw [decide_eq_false e, if_neg fun z => e z.symm, if_neg Bool.false_ne_true]
    · rw [decide_eq_false h, if_neg Bool.false_ne_true, Bool.false_and, if_neg Bool.false_ne_true]
theorem spans_get (b : BookV) (p : Str) : (dFind (m_P_spans_of b) p).getD [] = spansIn b.claims p := by
  have e : m_P_spans_of b = b.claims.foldl (fun s x => if decide (x.kd = ("silent" : Str)) = true then dApp s x.who (x.h1, x.h2) else s) [] := rfl
  rw [e, spans_fold]
  rfl
theorem bars_fold {h t : Str} : ∀ {y : List Sy} {s0 : List ((Str × Str) × Bool)}, dHas (y.foldl (fun s x => if decide (x.kd = ("barred" : Str)) = true then dPut s (x.who, x.other) true else s) s0) (h, t) = (dHas s0 (h, t) || y.any fun x => decide (x.kd = ("barred" : Str)) && decide ((x.who, x.other) = (h, t)))
  | [], s0 => by simp
  | x :: y, s0 => by
    rw [List.foldl_cons, bars_fold, List.any_cons]
    by_cases q : x.kd = ("barred" : Str)
    · rw [decide_eq_true q, if_pos rfl, has_put, Bool.true_and]
      by_cases e : (x.who, x.other) = (h, t)
      · rw [decide_eq_true e, decide_eq_true e.symm, Bool.true_or, Bool.true_or, Bool.or_true]
      · rw [decide_eq_false e, decide_eq_false (fun z => e z.symm), Bool.false_or, Bool.false_or]
    · rw [decide_eq_false q, if_neg Bool.false_ne_true, Bool.false_and, Bool.false_or]
theorem bars_has (b : BookV) (h t : Str) : dHas (m_P_bars_of b) (h, t) = b.claims.any fun x => decide (x.kd = ("barred" : Str)) && decide ((x.who, x.other) = (h, t)) := by
  have e : m_P_bars_of b = b.claims.foldl (fun s x => if decide (x.kd = ("barred" : Str)) = true then dPut s (x.who, x.other) true else s) [] := rfl
  rw [e, bars_fold]
  rfl
theorem within_eq (h : Int) (xs : List (Int × Int)) : m_P_is_within h xs = xs.any fun x => decide (x.1 ≤ h) && decide (h ≤ x.2) := lp_any _ _
def keptB (y : List Sy) (t h : Str) (hr : Int) : Bool := y.any fun x => (decide (x.kd = ("silent" : Str)) && (decide (x.who = t) && (decide (x.h1 ≤ hr) && decide (hr ≤ x.h2)))) || (decide (x.kd = ("barred" : Str)) && decide ((x.who, x.other) = (h, t)))
def openT (b : BookV) (q : Int × Str × Str) : Bool := m_P_is_above (nth b.meetings q.1).1 (dGet (m_P_floors b) q.2.2) && !keptB b.claims q.2.1 q.2.2 (nth b.meetings q.1).1
theorem kept_parts (b : BookV) (t h : Str) (hr : Int) : keptB b.claims t h hr = (m_P_is_within hr ((dFind (m_P_spans_of b) t).getD []) || dHas (m_P_bars_of b) (h, t)) := by
  unfold keptB
  rw [any_orB, within_eq, spans_get, bars_has]
  unfold spansIn
  rw [List.any_map, List.any_filter]
  congr 1
  congr 1
  funext x
  simp only [Function.comp_def, Bool.and_assoc]
theorem opent_form (b : BookV) : m_P_open_tellings b = (m_P_Book_tellings b).filter (openT b) := by
  have e : m_P_open_tellings b = (m_P_Book_tellings b).foldl (fun s x => if (m_P_is_above (nth b.meetings x.1).1 (dGet (m_P_floors b) x.2.2) && !dHas (m_P_bars_of b) (x.2.2, x.2.1)) = true then (if (!(m_P_is_within (nth b.meetings x.1).1 ((dFind (m_P_spans_of b) x.2.1).getD []))) = true then s ++ [(x.1, x.2.1, x.2.2)] else s) else s) [] := rfl
  rw [e]
  have h : (fun (s : List (Int × Str × Str)) (x : Int × Str × Str) => if (m_P_is_above (nth b.meetings x.1).1 (dGet (m_P_floors b) x.2.2) && !dHas (m_P_bars_of b) (x.2.2, x.2.1)) = true then (if (!(m_P_is_within (nth b.meetings x.1).1 ((dFind (m_P_spans_of b) x.2.1).getD []))) = true then s ++ [(x.1, x.2.1, x.2.2)] else s) else s) = fun s x => if openT b x = true then s ++ [id x] else s := by
    funext s x
    unfold openT
    rw [kept_parts]
    cases m_P_is_above (nth b.meetings x.1).1 (dGet (m_P_floors b) x.2.2) <;> cases dHas (m_P_bars_of b) (x.2.2, x.2.1) <;> cases m_P_is_within (nth b.meetings x.1).1 ((dFind (m_P_spans_of b) x.2.1).getD []) <;> rfl
  rw [h, foldl_fm, List.map_id, List.nil_append]
def clearB (y : List Sy) (p : Str) (h : Int) : Bool := !y.any fun s => decide (s.kd = ("unheard" : Str)) && (decide (s.who = p) && (s.ho.isNone || decide (h ≤ s.ho.getD default)))
theorem lmax_lt {l : List Int} {h : Int} (hl : 0 < l.length) : lmax l < h ↔ ∀ i ∈ l, i < h := by
  have hs := lmax_spec hl
  constructor
  · intro z i hi
    have := hs.2 i hi
    omega
  · intro z
    exact z _ hs.1
theorem mem_hours {x : Str} {y : List Sy} {o : Option Int} : o ∈ hoursOf x y ↔ ∃ s ∈ y, s.kd = ("unheard" : Str) ∧ s.who = x ∧ s.ho = o := by
  unfold hoursOf
  rw [List.mem_map]
  constructor
  · rintro ⟨s, hs, e⟩
    rw [List.mem_filter, Bool.and_eq_true, decide_eq_true_eq, decide_eq_true_eq] at hs
    exact ⟨s, hs.1, hs.2.1, hs.2.2, e⟩
  · rintro ⟨s, hs, h1, h2, h3⟩
    refine ⟨s, ?_, h3⟩
    rw [List.mem_filter, Bool.and_eq_true, decide_eq_true_eq, decide_eq_true_eq]
    exact ⟨hs, h1, h2⟩
theorem clear_iff {y : List Sy} {p : Str} {h : Int} : clearB y p h = true ↔ ∀ s ∈ y, s.kd = ("unheard" : Str) → s.who = p → ∃ i, s.ho = some i ∧ i < h := by
  unfold clearB
  rw [Bool.not_eq_true', List.any_eq_false]
  constructor
  · intro z s hs h1 h2
    have q := z s hs
    rw [decide_eq_true h1, decide_eq_true h2, Bool.true_and, Bool.true_and] at q
    cases e : s.ho with
    | none => rw [e] at q; exact absurd rfl q
    | some i =>
      rw [e] at q
      refine ⟨i, rfl, ?_⟩
      have q' : ¬ (false || decide (h ≤ i)) = true := q
      rw [Bool.false_or, decide_eq_true_eq] at q'
      omega
  · intro z s hs q
    rw [Bool.and_eq_true, Bool.and_eq_true, decide_eq_true_eq, decide_eq_true_eq] at q
    obtain ⟨i, hi, hl⟩ := z s hs q.1 q.2.1
    have q2 := q.2.2
    rw [hi] at q2
    have q' : (false || decide (h ≤ i)) = true := q2
    rw [Bool.false_or, decide_eq_true_eq] at q'
    omega
theorem above_clear {p : List Str} {s : List Sight} {t : List Talk} {y : List Sy} {x : Str} {h : Int} (hx : x ∈ p) (h0 : 0 ≤ h) : m_P_is_above h (dGet (m_P_floors (m_P_Book p s t y)) x) = clearB y x h := by
  rw [floors_get hx, Bool.eq_iff_iff, clear_iff]
  unfold m_P_is_above
  by_cases q : none ∈ hoursOf x y
  · rw [if_pos q]
    constructor
    · intro z; cases z
    · intro z
      obtain ⟨s, hs, h1, h2, h3⟩ := mem_hours.mp q
      obtain ⟨i, hi, _⟩ := z s hs h1 h2
      rw [h3] at hi; cases hi
  · rw [if_neg q]
    rw [show ∀ z : Int, ((!(some z : Option Int).isNone) && decide ((some z : Option Int).getD default < h)) = decide (z < h) from fun _ => rfl, decide_eq_true_eq, lmax_lt (by unfold getO; rw [List.length_map, List.length_append]; show 0 < 1 + _; omega)]
    constructor
    · intro z s hs h1 h2
      cases e : s.ho with
      | none => exact absurd (mem_hours.mpr ⟨s, hs, h1, h2, e⟩) q
      | some i =>
        refine ⟨i, rfl, z i ?_⟩
        unfold getO
        exact List.mem_map.mpr ⟨some i, List.mem_append_right _ (mem_hours.mpr ⟨s, hs, h1, h2, e⟩), rfl⟩
    · intro z i hi
      unfold getO at hi
      obtain ⟨o, ho, rfl⟩ := List.mem_map.mp hi
      rcases List.mem_append.mp ho with ho | ho
      · rw [List.mem_singleton.mp ho]
        show (-1 : Int) < h
        omega
      · obtain ⟨s, hs, h1, h2, h3⟩ := mem_hours.mp ho
        obtain ⟨i, hi, hl⟩ := z s hs h1 h2
        rw [h3] at hi
        subst hi
        exact hl
theorem imin_le {a b : Int} : imin a b ≤ a ∧ imin a b ≤ b ∧ (imin a b = a ∨ imin a b = b) := imin_leM
theorem bar_dec (x : Sy) (h t : Str) : decide (x = Sy.barred h t) = (decide (x.kd = ("barred" : Str)) && decide ((x.who, x.other) = (h, t))) := by
  cases x with
  | knew p i => rw [decide_eq_false (show ¬ (Sy.knew p i).kd = ("barred" : Str) from n_kb)]; exact decide_eq_false fun z => nomatch z
  | unheard p i => rw [decide_eq_false (show ¬ (Sy.unheard p i).kd = ("barred" : Str) from n_ub)]; exact decide_eq_false fun z => nomatch z
  | silent p i j => rw [decide_eq_false (show ¬ (Sy.silent p i j).kd = ("barred" : Str) from n_sb)]; exact decide_eq_false fun z => nomatch z
  | barred p q =>
    have e : decide ((Sy.barred p q).kd = ("barred" : Str)) = true := decide_eq_true rfl
    rw [e, Bool.true_and]
    show decide (Sy.barred p q = Sy.barred h t) = decide ((p, q) = (h, t))
    by_cases k : p = h ∧ q = t
    · rw [k.1, k.2, decide_eq_true rfl, decide_eq_true rfl]
    · rw [decide_eq_false fun z => k (by cases z; exact ⟨rfl, rfl⟩), decide_eq_false fun z => k (by cases z; exact ⟨rfl, rfl⟩)]
theorem hour_pos {i : Int} (h : m_P_is_hour (Va.int i) = true) : 0 ≤ i := by
  rw [hour_iff, Bool.and_eq_true, decide_eq_true_eq] at h
  exact h.1
theorem enumF_snd {α : Type} : ∀ {xs : List α} {i : Nat}, (enumF i xs).map (·.2) = xs
  | [], _ => rfl
  | x :: xs, i => by
    have ih := enumF_snd (xs := xs) (i := i + 1)
    show x :: (enumF (i + 1) xs).map (·.2) = _
    rw [ih]
theorem enum_snd {α : Type} {xs : List α} : (enumL xs).map (·.2) = xs := enumF_snd
theorem put_all {α : Type} : ∀ {l s : List (Str × α)}, (kys (s ++ l)).Nodup → l.foldl (fun s q => dPut s q.1 q.2) s = s ++ l
  | [], s, _ => by rw [List.append_nil]; rfl
  | q :: l, s, h => by
    have hn : dHas s q.1 = false := by
      cases hh : dHas s q.1 with
      | false => rfl
      | true =>
        unfold kys at h
        rw [List.map_append, List.nodup_append] at h
        exact absurd rfl (h.2.2 q.1 (mem_kys.mpr hh) q.1 (List.mem_map_of_mem List.mem_cons_self))
    rw [List.foldl_cons]
    have e : dPut s q.1 q.2 = s ++ [q] := by unfold dPut; rw [hn]; rfl
    rw [e, put_all (by rw [List.append_assoc]; exact h), List.append_assoc]
    rfl
theorem of_pairs {α : Type} {l : List (Str × α)} (h : (kys l).Nodup) : ofPairs l = l := put_all (s := []) h
theorem nth_zero {α : Type} [Inhabited α] {x : α} {l : List α} : nth (x :: l) 0 = x := by
  rw [nth_nat (by omega) (by rw [List.length_cons]; omega)]
  rfl
theorem find_nth {w : Str} : ∀ l : List (Str × Str), (dFind l w).getD w = nth ((l.filter fun e => decide (e.1 = w)).map (fun e => e.2) ++ [w]) 0
  | [] => rfl
  | q :: l => by
    rw [dFind, List.filter_cons]
    by_cases e : q.1 = w
    · rw [if_pos e, decide_eq_true e, if_pos rfl, List.map_cons, List.cons_append, nth_zero]
      rfl
    · rw [if_neg e, decide_eq_false e, if_neg Bool.false_ne_true]
      exact find_nth l
abbrev VKy := Str × List Str
inductive RV (S : List Sight) (E : List (Int × Str × Str)) (tl : Str → List Str → List Str) : VKy → Int → Prop
  | see {s : Sight} : s ∈ S → RV S E tl (s.1, s.2.2) s.2.1
  | hop {w h : Int} {a b : Str} {t : List Str} : (w, a, b) ∈ E → RV S E tl (a, t) h → h < w → RV S E tl (b, tl a t) w
theorem RV.mono {S S' : List Sight} {E E' : List (Int × Str × Str)} {tl : Str → List Str → List Str} (hS : ∀ x ∈ S, x ∈ S') (hE : ∀ x ∈ E, x ∈ E') {v : VKy} {h : Int} (r : RV S E tl v h) : RV S' E' tl v h := by
  induction r with
  | see h => exact .see (hS _ h)
  | hop h1 _ h3 ih => exact .hop (hE _ h1) ih h3
structure LV (S : List Sight) (E : List (Int × Str × Str)) (tl : Str → List Str → List Str) (d : Ver62) : Prop where
  nd : (kys d).Nodup
  of : ∀ q ∈ d, RV S E tl q.1 q.2
  le : ∀ v h, RV S E tl v h → ∃ u, dFind d v = some u ∧ u ≤ h
theorem find_memV {κ α : Type} [DecidableEq κ] {k : κ} {v : α} : ∀ {l : List (κ × α)}, dFind l k = some v → (k, v) ∈ l
  | [], h => nomatch h
  | q :: l, h => by
    rw [dFind] at h
    by_cases e : q.1 = k
    · rw [if_pos e] at h
      cases h
      rw [← e]
      exact List.mem_cons_self
    · rw [if_neg e] at h
      exact List.mem_cons_of_mem _ (find_memV h)
theorem mem_findV {κ α : Type} [DecidableEq κ] : ∀ {l : List (κ × α)}, (kys l).Nodup → ∀ {q : κ × α}, q ∈ l → dFind l q.1 = some q.2
  | x :: l, nd, q, h => by
    have nd2 := List.nodup_cons.mp nd
    rw [dFind]
    rcases List.mem_cons.mp h with rfl | h
    · rw [if_pos rfl]
    · rw [if_neg fun e => nd2.1 (by show x.1 ∈ _; rw [e]; exact List.mem_map_of_mem h)]
      exact mem_findV nd2.2 h
theorem LV.fi {S : List Sight} {E : List (Int × Str × Str)} {tl : Str → List Str → List Str} {d : Ver62} (l : LV S E tl d) {v : VKy} {h : Int} (hf : dFind d v = some h) : RV S E tl v h := l.of _ (find_memV hf)
theorem LV.eq {S : List Sight} {E : List (Int × Str × Str)} {tl : Str → List Str → List Str} {d d' : Ver62} (a : LV S E tl d) (b : LV S E tl d') (v : VKy) : dFind d v = dFind d' v := by
  cases h1 : dFind d v with
  | none =>
    cases h2 : dFind d' v with
    | none => rfl
    | some u =>
      obtain ⟨z, hz, _⟩ := a.le v u (b.fi h2)
      rw [h1] at hz; cases hz
  | some u =>
    obtain ⟨z, hz, hl⟩ := b.le v u (a.fi h1)
    obtain ⟨y, hy, hl2⟩ := a.le v z (b.fi hz)
    rw [h1] at hy
    cases hy
    have : z = u := by omega
    rw [hz, this]
theorem LV.mem {S : List Sight} {E : List (Int × Str × Str)} {tl : Str → List Str → List Str} {d d' : Ver62} (a : LV S E tl d) (b : LV S E tl d') (q : VKy × Int) : q ∈ d ↔ q ∈ d' := by
  constructor
  · intro h
    have e := mem_findV a.nd h
    rw [a.eq b] at e
    exact find_memV e
  · intro h
    have e := mem_findV b.nd h
    rw [b.eq a] at e
    exact find_memV e
def put1 (s : Ver62) (k : VKy) (w : Int) : Ver62 := dPut s k (imin ((dFind s k).getD w) w)
theorem mem_put {κ α : Type} [DecidableEq κ] {s : List (κ × α)} {k : κ} {y : α} {q : κ × α} (h : q ∈ dPut s k y) : q ∈ s ∨ q = (k, y) := by
  unfold dPut at h
  split at h
  · obtain ⟨p, hp, e⟩ := List.mem_map.mp h
    by_cases z : p.1 = k
    · rw [if_pos z] at e
      right
      rw [← e, z]
    · rw [if_neg z] at e
      left
      rw [← e]
      exact hp
  · rcases List.mem_append.mp h with h | h
    · exact .inl h
    · exact .inr (List.mem_singleton.mp h)
theorem put1_down {s : Ver62} {k v : VKy} {w h : Int} (hv : dFind s v = some h) : ∃ u, dFind (put1 s k w) v = some u ∧ u ≤ h := by
  unfold put1
  rw [find_put]
  by_cases e : v = k
  · rw [if_pos e, ← e, hv]
    exact ⟨_, rfl, (@imin_le h w).1⟩
  · rw [if_neg e]
    exact ⟨h, hv, Int.le_refl _⟩
theorem put1_back {s : Ver62} {k v : VKy} {w u : Int} (hv : dFind (put1 s k w) v = some u) (hl : u < w) : dFind s v = some u := by
  unfold put1 at hv
  rw [find_put] at hv
  by_cases e : v = k
  · rw [if_pos e] at hv
    rw [e]
    have hv := Option.some.inj hv
    cases hf : dFind s k with
    | none =>
      rw [hf] at hv
      have i := @imin_le w w
      have hv2 : imin w w = u := hv
      omega
    | some o =>
      rw [hf] at hv
      have i := @imin_le o w
      have hv2 : imin o w = u := hv
      have : o = u := by omega
      rw [this]
  · rw [if_neg e] at hv
    exact hv
theorem put1_hit {s : Ver62} {k : VKy} {w : Int} : ∃ u, dFind (put1 s k w) k = some u ∧ u ≤ w := by
  unfold put1
  rw [find_put, if_pos rfl]
  exact ⟨_, rfl, (@imin_le _ w).2.1⟩
theorem put1_mem {s : Ver62} {k : VKy} {w : Int} {q : VKy × Int} (h : q ∈ put1 s k w) : q ∈ s ∨ q = (k, w) := by
  unfold put1 at h
  rcases mem_put h with h | h
  · exact .inl h
  · have i := @imin_le ((dFind s k).getD w) w
    rcases i.2.2 with e | e
    · rw [e] at h
      cases hf : dFind s k with
      | none =>
        rw [hf] at h
        exact .inr h
      | some o =>
        rw [hf] at h
        left
        rw [h]
        exact find_memV hf
    · rw [e] at h
      exact .inr h
theorem fold1_down {c : Str} {w : Int} : ∀ {ys : List (List Str × List Str)} {s : Ver62} {v : VKy} {h : Int}, dFind s v = some h → ∃ u, dFind (ys.foldl (fun s y => put1 s (c, y.2) w) s) v = some u ∧ u ≤ h
  | [], s, v, h, hv => ⟨h, hv, Int.le_refl _⟩
  | y :: ys, s, v, h, hv => by
    obtain ⟨u, hu, hl⟩ := put1_down (k := (c, y.2)) (w := w) hv
    obtain ⟨z, hz, hl2⟩ := fold1_down (ys := ys) hu
    exact ⟨z, hz, by omega⟩
theorem fold1_back {c : Str} {w : Int} : ∀ {ys : List (List Str × List Str)} {s : Ver62} {v : VKy} {u : Int}, dFind (ys.foldl (fun s y => put1 s (c, y.2) w) s) v = some u → u < w → dFind s v = some u
  | [], s, v, u, hv, _ => hv
  | y :: ys, s, v, u, hv, hl => put1_back (fold1_back (ys := ys) hv hl) hl
theorem fold1_hit {c : Str} {w : Int} : ∀ {ys : List (List Str × List Str)} {s : Ver62} {y : List Str × List Str}, y ∈ ys → ∃ u, dFind (ys.foldl (fun s y => put1 s (c, y.2) w) s) (c, y.2) = some u ∧ u ≤ w
  | z :: ys, s, y, hy => by
    rcases List.mem_cons.mp hy with rfl | hy
    · obtain ⟨u, hu, hl⟩ := put1_hit (s := s) (k := (c, y.2)) (w := w)
      obtain ⟨z, hz, hl2⟩ := fold1_down (ys := ys) (c := c) (w := w) hu
      exact ⟨z, hz, by omega⟩
    · exact fold1_hit (ys := ys) hy
theorem fold1_mem {c : Str} {w : Int} {q : VKy × Int} : ∀ {ys : List (List Str × List Str)} {s : Ver62}, q ∈ ys.foldl (fun s y => put1 s (c, y.2) w) s → q ∈ s ∨ ∃ y ∈ ys, q = ((c, y.2), w)
  | [], s, h => .inl h
  | y :: ys, s, h => by
    rcases fold1_mem (ys := ys) h with h | ⟨z, hz, e⟩
    · rcases put1_mem h with h | h
      · exact .inl h
      · exact .inr ⟨y, List.mem_cons_self, h⟩
    · exact .inr ⟨z, List.mem_cons_of_mem _ hz, e⟩
theorem heard_form (kvs : Ver62) (h : Hab62) (x : Int × Int × Str × Str) : m_P_heard_by kvs h x = (kvs.filter fun q => decide (q.1.1 = x.2.2.1) && decide (q.2 < x.1)).map fun q => (q.1.2, m_P_as_told h x.2.2.1 q.1.2) := by
  have e : m_P_heard_by kvs h x = kvs.foldl (fun s q => if (decide (q.1.1 = x.2.2.1) && decide (q.2 < x.1)) = true then s ++ [(q.1.2, m_P_as_told h x.2.2.1 q.1.2)] else s) [] := rfl
  rw [e, foldl_fm, List.nil_append]
theorem heard_of {kvs : Ver62} {h : Hab62} {x : Int × Int × Str × Str} {t : List Str} {u : Int} (hf : dFind kvs (x.2.2.1, t) = some u) (hl : u < x.1) : (t, m_P_as_told h x.2.2.1 t) ∈ m_P_heard_by kvs h x := by
  rw [heard_form]
  exact List.mem_map.mpr ⟨((x.2.2.1, t), u), List.mem_filter.mpr ⟨find_memV hf, by rw [Bool.and_eq_true, decide_eq_true_eq, decide_eq_true_eq]; exact ⟨rfl, hl⟩⟩, rfl⟩
def pStep (h : Hab62) (s : Ver62) (x : Int × Int × Str × Str) : Ver62 := (m_P_heard_by s h x).foldl (fun s y => put1 s (x.2.2.2, y.2) x.1) s
theorem pv_down {hb : Hab62} : ∀ {xs : List (Int × Int × Str × Str)} {s : Ver62} {v : VKy} {h : Int}, dFind s v = some h → ∃ u, dFind (xs.foldl (pStep hb) s) v = some u ∧ u ≤ h
  | [], s, v, h, hv => ⟨h, hv, Int.le_refl _⟩
  | x :: xs, s, v, h, hv => by
    obtain ⟨u, hu, hl⟩ := fold1_down (c := x.2.2.2) (w := x.1) (ys := m_P_heard_by s hb x) hv
    obtain ⟨z, hz, hl2⟩ := pv_down (xs := xs) (hb := hb) hu
    exact ⟨z, hz, by omega⟩
theorem pv_back {hb : Hab62} {w : Int} : ∀ {xs : List (Int × Int × Str × Str)} {s : Ver62} {v : VKy} {u : Int}, (∀ x ∈ xs, w ≤ x.1) → dFind (xs.foldl (pStep hb) s) v = some u → u < w → dFind s v = some u
  | [], s, v, u, _, hv, _ => hv
  | x :: xs, s, v, u, hw, hv, hl => by
    have := hw x List.mem_cons_self
    exact fold1_back (pv_back (xs := xs) (fun y hy => hw y (List.mem_cons_of_mem _ hy)) hv hl) (by omega)
theorem pv_shut {hb : Hab62} : ∀ {xs : List (Int × Int × Str × Str)} {s : Ver62}, (xs.Pairwise fun a b => a.1 ≤ b.1) → ∀ x ∈ xs, ∀ t u, dFind (xs.foldl (pStep hb) s) (x.2.2.1, t) = some u → u < x.1 → ∃ z, dFind (xs.foldl (pStep hb) s) (x.2.2.2, m_P_as_told hb x.2.2.1 t) = some z ∧ z ≤ x.1
  | y :: xs, s, pw, x, hx, t, u, hu, hl => by
    have pw2 := List.pairwise_cons.mp pw
    rcases List.mem_cons.mp hx with rfl | hx
    · have hb1 := pv_back (xs := x :: xs) (w := x.1) (s := s) (fun z hz => by
        rcases List.mem_cons.mp hz with rfl | hz
        · exact Int.le_refl _
        · exact pw2.1 z hz) hu hl
      obtain ⟨z, hz, hl2⟩ := fold1_hit (c := x.2.2.2) (w := x.1) (s := s) (heard_of (h := hb) hb1 hl)
      obtain ⟨z2, hz2, hl3⟩ := pv_down (hb := hb) (xs := xs) hz
      exact ⟨z2, hz2, by omega⟩
    · exact pv_shut (xs := xs) (s := pStep hb s y) pw2.2 x hx t u hu hl
theorem pstep_sound {S : List Sight} {E : List (Int × Str × Str)} {hb : Hab62} {s : Ver62} {x : Int × Int × Str × Str} (hx : (x.1, x.2.2.1, x.2.2.2) ∈ E) (hs : ∀ q ∈ s, RV S E (m_P_as_told hb) q.1 q.2) : ∀ q ∈ pStep hb s x, RV S E (m_P_as_told hb) q.1 q.2 := by
  intro q hq
  rcases fold1_mem hq with h | ⟨y, hy, e⟩
  · exact hs q h
  · obtain ⟨p, hp, e1, hl, e2⟩ := heard_mem hy
    rw [e, e2]
    refine .hop hx ?_ hl
    have := hs p hp
    rw [← e1]
    exact this
theorem fold1_nd {c : Str} {w : Int} {ys : List (List Str × List Str)} {s : Ver62} (h : (kys s).Nodup) : (kys (ys.foldl (fun s y => put1 s (c, y.2) w) s)).Nodup :=
  foldl_keepM (P := fun s : Ver62 => (kys s).Nodup) (fun s y _ h => kys_nd h) h
theorem pass_lv {S : List Sight} {E : List (Int × Str × Str)} {hb : Hab62} {xs : List (Int × Int × Str × Str)} {s : Ver62} (pw : xs.Pairwise fun a b => a.1 ≤ b.1) (hE : ∀ e, e ∈ E ↔ ∃ x ∈ xs, e = (x.1, x.2.2.1, x.2.2.2)) (nd : (kys s).Nodup)
    (h0 : ∀ q ∈ s, ∃ x ∈ S, q = ((x.1, x.2.2), x.2.1)) (h1 : ∀ x ∈ S, ∃ u, dFind s (x.1, x.2.2) = some u ∧ u ≤ x.2.1) : LV S E (m_P_as_told hb) (xs.foldl (pStep hb) s) := by
  refine ⟨foldl_keepM (P := fun s : Ver62 => (kys s).Nodup) (fun s x _ h => fold1_nd h) nd, ?_, fun v h r => ?_⟩
  · refine foldl_keepM (P := fun s : Ver62 => ∀ q ∈ s, RV S E (m_P_as_told hb) q.1 q.2) (fun s x hx h => pstep_sound ((hE _).mpr ⟨x, hx, rfl⟩) h) fun q hq => ?_
    obtain ⟨x, hx, rfl⟩ := h0 q hq
    exact .see hx
  · induction r with
    | see hs =>
      obtain ⟨u, hu, hl⟩ := h1 _ hs
      obtain ⟨z, hz, hl2⟩ := pv_down (hb := hb) (xs := xs) hu
      exact ⟨z, hz, by omega⟩
    | hop he _ hl ih =>
      obtain ⟨u, hu, hl2⟩ := ih
      obtain ⟨x, hx, e⟩ := (hE _).mp he
      rw [Prod.mk.injEq, Prod.mk.injEq] at e
      obtain ⟨e1, e2, e3⟩ := e
      rw [e2] at hu
      obtain ⟨z, hz, hl3⟩ := pv_shut (hb := hb) pw x hx _ u hu (by omega)
      rw [e1, e2, e3]
      exact ⟨z, hz, hl3⟩
theorem setd_put {s : Ver62} {k : VKy} {y : Int} : dSetd s k y = if dHas s k = true then s else dPut s k y := by
  unfold dSetd dPut
  split
  · rfl
  · rfl
theorem seen_fold : ∀ {xs : List Sight} {s : Ver62}, (xs.Pairwise fun a b => a.2.1 ≤ b.2.1) → (kys s).Nodup → (∀ q ∈ s, ∀ x ∈ xs, q.2 ≤ x.2.1) →
    (kys (xs.foldl (fun s x => dSetd s (x.1, x.2.2) x.2.1) s)).Nodup ∧ (∀ q ∈ xs.foldl (fun s x => dSetd s (x.1, x.2.2) x.2.1) s, q ∈ s ∨ ∃ x ∈ xs, q = ((x.1, x.2.2), x.2.1)) ∧ (∀ v h, dFind s v = some h → dFind (xs.foldl (fun s x => dSetd s (x.1, x.2.2) x.2.1) s) v = some h) ∧
    (∀ x ∈ xs, ∃ u, dFind (xs.foldl (fun s x => dSetd s (x.1, x.2.2) x.2.1) s) (x.1, x.2.2) = some u ∧ u ≤ x.2.1)
  | [], s, _, nd, _ => ⟨nd, fun q h => .inl h, fun v h e => e, fun x h => nomatch h⟩
  | x :: xs, s, pw, nd, h => by
    have pw2 := List.pairwise_cons.mp pw
    rw [List.foldl_cons, setd_put]
    by_cases hh : dHas s (x.1, x.2.2) = true
    · rw [if_pos hh]
      obtain ⟨a, b, c, d⟩ := seen_fold (xs := xs) (s := s) pw2.2 nd fun q hq y hy => h q hq y (List.mem_cons_of_mem _ hy)
      refine ⟨a, fun q hq => ?_, c, fun y hy => ?_⟩
      · rcases b q hq with z | ⟨z, hz, e⟩
        · exact .inl z
        · exact .inr ⟨z, List.mem_cons_of_mem _ hz, e⟩
      · rcases List.mem_cons.mp hy with rfl | hy
        · rw [dHas_find, Option.isSome_iff_exists] at hh
          obtain ⟨u, hu⟩ := hh
          exact ⟨u, c _ _ hu, h _ (find_memV hu) y List.mem_cons_self⟩
        · exact d y hy
    · rw [if_neg hh]
      have hn : dFind s (x.1, x.2.2) = none := by
        rw [dHas_find] at hh
        cases hf : dFind s (x.1, x.2.2) with
        | none => rfl
        | some u => rw [hf] at hh; exact absurd rfl hh
      obtain ⟨a, b, c, d⟩ := seen_fold (xs := xs) (s := dPut s (x.1, x.2.2) x.2.1) pw2.2 (kys_nd nd) fun q hq y hy => by
        rcases mem_put hq with hq | rfl
        · exact h q hq y (List.mem_cons_of_mem _ hy)
        · exact pw2.1 y hy
      refine ⟨a, fun q hq => ?_, fun v u hv => c v u ?_, fun y hy => ?_⟩
      · rcases b q hq with z | ⟨z, hz, e⟩
        · rcases mem_put z with z | z
          · exact .inl z
          · exact .inr ⟨x, List.mem_cons_self, z⟩
        · exact .inr ⟨z, List.mem_cons_of_mem _ hz, e⟩
      · rw [find_put, if_neg fun e => by rw [e, hn] at hv; cases hv]
        exact hv
      · rcases List.mem_cons.mp hy with rfl | hy
        · exact ⟨_, c _ _ (by rw [find_put, if_pos rfl]), Int.le_refl _⟩
        · exact d y hy
def seenV (b : BookV) : List Sight := (m_P_open_sights b).map fun e => nth (m_P_Book_sights b) e
def edgesV (b : BookV) : List (Int × Str × Str) := (m_P_open_tellings b).map fun q => ((nth b.meetings q.1).1, q.2.1, q.2.2)
abbrev pdT (x : Int × Int × Str × Str) : PyData := PyData.tuple [PyData.int x.1, PyData.int x.2.1, PyData.str x.2.2.1, PyData.str x.2.2.2]
theorem timed_form (b : BookV) : m_P_timed_tellings b = srtD pdT ((m_P_open_tellings b).map fun e => ((nth b.meetings e.1).1, e.1, e.2.1, e.2.2)) := rfl
theorem timed_pw (b : BookV) : (m_P_timed_tellings b).Pairwise fun x y => x.1 ≤ y.1 := by
  rw [timed_form]
  refine (srt_pw pdT _).imp ?_
  intro x y h
  exact le_int (k := fun x : Int × Int × Str × Str => x.1) (r := fun x => [PyData.int x.2.1, PyData.str x.2.2.1, PyData.str x.2.2.2]) (fun x => rfl) h
theorem timed_mem {b : BookV} {x : Int × Int × Str × Str} : x ∈ m_P_timed_tellings b ↔ (x.2.1, x.2.2.1, x.2.2.2) ∈ m_P_open_tellings b ∧ x.1 = (nth b.meetings x.2.1).1 := by
  rw [timed_form, mem_srt]
  constructor
  · intro h
    obtain ⟨q, hq, rfl⟩ := List.mem_map.mp h
    exact ⟨hq, rfl⟩
  · rintro ⟨h1, h2⟩
    refine List.mem_map.mpr ⟨_, h1, ?_⟩
    rw [Prod.ext_iff]
    exact ⟨h2.symm, rfl⟩
theorem edges_mem {b : BookV} (e : Int × Str × Str) : e ∈ edgesV b ↔ ∃ x ∈ m_P_timed_tellings b, e = (x.1, x.2.2.1, x.2.2.2) := by
  unfold edgesV
  rw [List.mem_map]
  constructor
  · rintro ⟨q, hq, rfl⟩
    exact ⟨((nth b.meetings q.1).1, q.1, q.2.1, q.2.2), timed_mem.mpr ⟨hq, rfl⟩, rfl⟩
  · rintro ⟨x, hx, rfl⟩
    obtain ⟨h1, h2⟩ := timed_mem.mp hx
    exact ⟨_, h1, by rw [h2]⟩
theorem ver_lv (b : BookV) (h : Hab62) : LV (seenV b) (edgesV b) (m_P_as_told h) (m_P_earliest_versions b h) := by
  have e : m_P_earliest_versions b h = (m_P_timed_tellings b).foldl (pStep h) (((seenV b).mergeSort fun a c => decide (a.2.1 ≤ c.2.1)).foldl (fun s x => dSetd s (x.1, x.2.2) x.2.1) []) := ver_form b h
  rw [e]
  have pw : ((seenV b).mergeSort fun a c => decide (a.2.1 ≤ c.2.1)).Pairwise fun a c => a.2.1 ≤ c.2.1 := by
    have a := List.pairwise_mergeSort (le := fun a c : Sight => decide (a.2.1 ≤ c.2.1)) (fun a b c h1 h2 => by simp only [decide_eq_true_eq] at *; omega) (fun a b => by simp only [Bool.or_eq_true, decide_eq_true_eq]; omega) (seenV b)
    exact a.imp fun h => by simpa using h
  obtain ⟨h1, h2, _, h4⟩ := seen_fold (s := []) pw List.nodup_nil fun q hq => nomatch hq
  refine pass_lv (timed_pw b) edges_mem h1 (fun q hq => ?_) fun x hx => h4 x ((List.mergeSort_perm _ _).mem_iff.mpr hx)
  rcases h2 q hq with z | ⟨x, hx, e⟩
  · exact nomatch z
  · exact ⟨x, (List.mergeSort_perm _ _).mem_iff.mp hx, e⟩
structure SeeV (p : List Str) (s : List Sight) (t : List Talk) : Prop where
  s : ∀ x ∈ s, x.1 ∈ p ∧ 0 ≤ x.2.1
  t : ∀ x ∈ t, x.2.1 ∈ p ∧ x.2.2.1 ∈ p ∧ 0 ≤ x.1
theorem seeV_of {p : List Str} {s : List Sight} {t : List Talk} (hs : ∀ x ∈ s, m_P_is_sight x p = true) (ht : ∀ x ∈ t, m_P_is_talk x p = true) : SeeV p s t := by
  refine ⟨fun x hx => ⟨sight_who (hs x hx), ?_⟩, fun x hx => ⟨(talk_two (ht x hx)).1, (talk_two (ht x hx)).2, ?_⟩⟩
  · have h := hs x hx
    unfold m_P_is_sight at h
    rw [tup_of3] at h
    simp only [Bool.not_true, Bool.false_eq_true, if_false, Bool.and_eq_true, decide_eq_true_eq] at h
    exact hour_pos h.2.1
  · have h := ht x hx
    unfold m_P_is_talk at h
    rw [tup_of4] at h
    simp only [Bool.not_true, Bool.false_eq_true, if_false, Bool.and_eq_true, decide_eq_true_eq] at h
    exact hour_pos h.1
theorem seen_eq {p : List Str} {s : List Sight} {t : List Talk} {y : List Sy} (w : SeeV p s t) : seenV (m_P_Book p s t y) = s.filter fun x => clearB y x.1 x.2.1 := by
  have e : seenV (m_P_Book p s t y) = (((enumL s).filter fun e => m_P_is_above e.2.2.1 (dGet (m_P_floors (m_P_Book p s t y)) e.2.1)).map fun e => e.1).map fun k => nth s k := rfl
  rw [e, enum_upto, List.filter_map, List.map_map, List.map_map]
  have e2 : (upto (s.length : Int)).map (fun k => nth s k) = s := by
    have h1 : (enumL s).map (fun e => e.2) = s := enum_snd
    rw [enum_upto, List.map_map] at h1
    exact h1
  have e3 : s.filter (fun x => clearB y x.1 x.2.1) = ((upto (s.length : Int)).filter fun k => clearB y (nth s k).1 (nth s k).2.1).map fun k => nth s k := by
    have h2 : ((upto (s.length : Int)).map fun k => nth s k).filter (fun x => clearB y x.1 x.2.1) = ((upto (s.length : Int)).filter fun k => clearB y (nth s k).1 (nth s k).2.1).map fun k => nth s k := by
      rw [List.filter_map]
      rfl
    rw [e2] at h2
    exact h2
  rw [e3]
  show List.map (fun k => nth s k) _ = _
  congr 1
  refine List.filter_congr fun k hk => ?_
  have hn := w.s _ (nth_in hk)
  show m_P_is_above (nth s k).2.1 (dGet (m_P_floors (m_P_Book p s t y)) (nth s k).1) = _
  exact above_clear hn.1 hn.2
def HabNd (h : Hab62) : Prop := ∀ p, (((dFind h p).getD []).map (·.1)).Nodup
theorem hab_ndV {p w : List Str} {c : Int} (nd : w.Nodup) : HabNd (m_L_habits c p w) := fun x => by
  refine hab_foldV (P := fun l => (l.map (·.1)).Nodup) List.nodup_nil (fun n u => ?_) x
  rw [List.map_map]
  have e : ((fun q : Str × Str => q.1) ∘ fun e : Int × Str => (e.2, nth w (m_L_mix n e.1 % (w.length : Int)))) = fun e => e.2 := rfl
  rw [e, enum_snd]
  exact cut_nd nd
theorem ltold_form (h : Hab62) (p : Str) (t : List Str) : m_L_told h p t = t.map fun x => nth ((((dFind h p).getD []).filter fun e => decide (e.1 = x)).map (fun e => e.2) ++ [x]) 0 := by
  have e0 : m_L_told h p t = t.foldl (fun s x => s ++ [nth ((((dFind h p).getD []).filter fun e => decide (e.1 = x)).map (fun e => e.2) ++ [x]) 0]) [] := rfl
  rw [e0, foldl_keepF (g := fun x => [nth ((((dFind h p).getD []).filter fun e => decide (e.1 = x)).map (fun e => e.2) ++ [x]) 0]) (fun _ _ _ => rfl), List.nil_append, ← List.map_eq_flatMap]
theorem ltold_eq {h : Hab62} (nd : HabNd h) (p : Str) (t : List Str) : m_L_told h p t = m_P_as_told h p t := by
  rw [ltold_form]
  unfold m_P_as_told
  simp only [lt]
  rw [of_pairs (nd p)]
  exact List.map_congr_left fun x _ => (find_nth _).symm
theorem timed_pos {p : List Str} {s : List Sight} {t : List Talk} {y : List Sy} (w : SeeV p s t) (bk : BkOk (m_P_Book p s t y)) : ∀ x ∈ m_P_timed_tellings (m_P_Book p s t y), 0 ≤ x.1 := fun x hx => by
  obtain ⟨h1, h2⟩ := timed_mem.mp hx
  rw [h2]
  exact (w.t _ (nth_mem (opent_in bk _ h1))).2.2
def abvV (o : Option Int) (h : Int) : Bool := !o.isNone && decide (o.getD default < h)
theorem clear_cons (x : Sy) (y : List Sy) (p : Str) (h : Int) : clearB (x :: y) p h = (!(decide (x.kd = ("unheard" : Str)) && (decide (x.who = p) && (x.ho.isNone || decide (h ≤ x.ho.getD default)))) && clearB y p h) := by
  unfold clearB
  rw [List.any_cons, Bool.not_or]
theorem lfloor_abv (p : Str) (h : Int) : ∀ (y : List Sy) (s0 : Int), abvV (lp (loopL (R := Option Int) (fun (s : Int) (x : Sy) => if (decide (x.kd = ("unheard" : Str)) && decide (x.who = p)) = true then (if x.ho.isNone = true then Ret.rt none else Ret.nx (imax s (x.ho.getD default))) else Ret.nx s) y s0) fun s => some s) h = (decide (s0 < h) && clearB y p h)
  | [], s0 => by
    show (true && decide (s0 < h)) = (decide (s0 < h) && true)
    rw [Bool.true_and, Bool.and_true]
  | x :: y, s0 => by
    rw [clear_cons, loopL]
    by_cases c : (decide (x.kd = ("unheard" : Str)) && decide (x.who = p)) = true
    · rw [if_pos c]
      rw [Bool.and_eq_true] at c
      rw [c.1, c.2, Bool.true_and, Bool.true_and]
      cases ho : x.ho with
      | none =>
        rw [if_pos (show (none : Option Int).isNone = true from rfl)]
        show false = (decide (s0 < h) && (!(true || _) && clearB y p h))
        rw [Bool.true_or, Bool.not_true, Bool.false_and, Bool.and_false]
      | some i =>
        rw [if_neg (show ¬ (some i : Option Int).isNone = true from Bool.false_ne_true)]
        have ih := lfloor_abv p h y (imax s0 i)
        show abvV (lp (loopL (R := Option Int) _ y (imax s0 i)) fun s => some s) h = _
        rw [ih]
        show (decide (imax s0 i < h) && clearB y p h) = (decide (s0 < h) && (!(false || decide (h ≤ i)) && clearB y p h))
        rw [Bool.false_or, ← Bool.and_assoc]
        congr 1
        have im := @imax_leM s0 i
        rw [Bool.eq_iff_iff]
        simp only [decide_eq_true_eq, Bool.and_eq_true, Bool.not_eq_true', decide_eq_false_iff_not]
        omega
    · rw [if_neg c]
      have ih := lfloor_abv p h y s0
      show abvV (lp (loopL (R := Option Int) _ y s0) fun s => some s) h = _
      rw [ih]
      have e : (decide (x.kd = ("unheard" : Str)) && (decide (x.who = p) && (x.ho.isNone || decide (h ≤ x.ho.getD default)))) = false := by
        rw [← Bool.and_assoc]
        cases q : (decide (x.kd = ("unheard" : Str)) && decide (x.who = p)) with
        | true => exact absurd q c
        | false => rfl
      rw [e, Bool.not_false, Bool.true_and]
theorem lfloor (y : List Sy) (p : Str) {h : Int} (h0 : 0 ≤ h) : abvV (m_L_floor y p) h = clearB y p h := by
  have e : m_L_floor y p = lp (loopL (R := Option Int) (fun (s : Int) (x : Sy) => if (decide (x.kd = ("unheard" : Str)) && decide (x.who = p)) = true then (if x.ho.isNone = true then Ret.rt none else Ret.nx (imax s (x.ho.getD default))) else Ret.nx s) y (-1)) fun s => some s := rfl
  rw [e, lfloor_abv, decide_eq_true (show (-1 : Int) < h by omega), Bool.true_and]
theorem lseen_form (s : List Sight) {y : List Sy} (hs : ∀ x ∈ s, 0 ≤ x.2.1) : m_L_seen s y = s.filter fun x => clearB y x.1 x.2.1 := by
  have e : m_L_seen s y = s.foldl (fun l x => if abvV (m_L_floor y x.1) x.2.1 = true then l ++ [id x] else l) [] := rfl
  rw [e, foldl_fm, List.map_id, List.nil_append]
  exact List.filter_congr fun x hx => lfloor y x.1 (hs x hx)
theorem lshut (y : List Sy) {h : Int} (h0 : 0 ≤ h) (a b : Str) : m_L_shut y h a b = !(clearB y b h && !keptB y a b h) := by
  have e : m_L_shut y h a b = if ((m_L_floor y b).isNone || decide (h ≤ (m_L_floor y b).getD default)) = true then true else lp (loopL (R := Bool) (fun (_ : Unit) (x : Sy) => if (decide (x.kd = ("silent" : Str)) && (decide (x.who = a) && (decide (x.h1 ≤ h) && decide (h ≤ x.h2)))) = true then Ret.rt true else if decide (x = Sy.barred b a) = true then Ret.rt true else Ret.nx ()) y ()) fun _ : Unit => false := rfl
  have hf : (fun (_ : Unit) (x : Sy) => if (decide (x.kd = ("silent" : Str)) && (decide (x.who = a) && (decide (x.h1 ≤ h) && decide (h ≤ x.h2)))) = true then Ret.rt true else if decide (x = Sy.barred b a) = true then Ret.rt true else Ret.nx ()) = fun (_ : Unit) (x : Sy) => if ((decide (x.kd = ("silent" : Str)) && (decide (x.who = a) && (decide (x.h1 ≤ h) && decide (h ≤ x.h2)))) || (decide (x.kd = ("barred" : Str)) && decide ((x.who, x.other) = (b, a)))) = true then (Ret.rt true : Ret Unit Bool) else Ret.nx () := by
    funext _ x
    rw [bar_dec]
    cases (decide (x.kd = ("silent" : Str)) && (decide (x.who = a) && (decide (x.h1 ≤ h) && decide (h ≤ x.h2)))) <;> rfl
  have hn : ((m_L_floor y b).isNone || decide (h ≤ (m_L_floor y b).getD default)) = !abvV (m_L_floor y b) h := by
    unfold abvV
    rw [Bool.not_and, Bool.not_not]
    congr 1
    rw [Bool.eq_iff_iff, decide_eq_true_eq, Bool.not_eq_true', decide_eq_false_iff_not]
    omega
  rw [e, hf, lp_any, hn, lfloor y b h0]
  show _ = !(clearB y b h && !keptB y a b h)
  have hk : (y.any fun x => (decide (x.kd = ("silent" : Str)) && (decide (x.who = a) && (decide (x.h1 ≤ h) && decide (h ≤ x.h2)))) || (decide (x.kd = ("barred" : Str)) && decide ((x.who, x.other) = (b, a)))) = keptB y a b h := rfl
  rw [hk]
  cases clearB y b h <;> cases keptB y a b h <;> rfl
theorem lseen_eq {p : List Str} {s : List Sight} {t : List Talk} {y : List Sy} (w : SeeV p s t) : m_L_seen s y = seenV (m_P_Book p s t y) := by
  rw [seen_eq w, lseen_form s fun x hx => (w.s x hx).2]
theorem lopen_eq {p : List Str} {s : List Sight} {t : List Talk} {y : List Sy} (w : SeeV p s t) : m_L_open t y = m_P_open_tellings (m_P_Book p s t y) := by
  have e : m_L_open t y = (enumL t).foldl (fun l x => if (decide (x.2.2.2.2 = ("both" : Str)) && !(m_L_shut y x.2.1 x.2.2.2.1 x.2.2.1)) = true then (if (!(m_L_shut y x.2.1 x.2.2.1 x.2.2.2.1)) = true then l ++ [(x.1, x.2.2.1, x.2.2.2.1)] else l) ++ [(x.1, x.2.2.2.1, x.2.2.1)] else (if (!(m_L_shut y x.2.1 x.2.2.1 x.2.2.2.1)) = true then l ++ [(x.1, x.2.2.1, x.2.2.2.1)] else l)) [] := rfl
  rw [e, foldl_keepF (g := fun x => (telOf x).filter (openT (m_P_Book p s t y))) (fun l x hx => ?_), List.nil_append, opent_form, tell_form, List.filter_flatMap]
  · rfl
  · have hm := mem_enum hx
    obtain ⟨h1, h2, h3⟩ := w.t _ hm.2.2
    have hx2 : nth t x.1 = x.2 := by
      rw [enum_upto] at hx
      obtain ⟨k, _, rfl⟩ := List.mem_map.mp hx
      rfl
    have key : ∀ a b : Str, b ∈ p → openT (m_P_Book p s t y) (x.1, a, b) = !m_L_shut y x.2.1 a b := fun a b hb => by
      rw [lshut y h3 a b, Bool.not_not]
      unfold openT
      show (m_P_is_above (nth t x.1).1 (dGet (m_P_floors (m_P_Book p s t y)) b) && !keptB y a b (nth t x.1).1) = _
      rw [hx2, above_clear hb h3]
    unfold telOf
    by_cases hb : x.2.2.2.2 = ("both" : Str)
    · rw [decide_eq_true hb, if_pos rfl, Bool.true_and, List.filter_cons, key _ _ h2, List.filter_cons, key _ _ h1, List.filter_nil]
      cases m_L_shut y x.2.1 x.2.2.1 x.2.2.2.1 <;> cases m_L_shut y x.2.1 x.2.2.2.1 x.2.2.1 <;> simp
    · rw [decide_eq_false hb, if_neg Bool.false_ne_true, Bool.false_and, if_neg Bool.false_ne_true, List.filter_cons, key _ _ h2, List.filter_nil]
      cases m_L_shut y x.2.1 x.2.2.1 x.2.2.2.1 <;> simp
abbrev StV := Int × Int × Str × Str
abbrev OwT := List Str × List Str
def HopOk (b : BookV) (h : Hab62) (x : StV) (y : OwT) : Prop := x ∈ m_P_timed_tellings b ∧ y ∈ m_P_heard_by (m_P_earliest_versions b h) h x
inductive Gd (b : BookV) (h : Hab62) (p : Str) (t : List Str) (w : Int) : StV → OwT → Prop
  | ends {x : StV} {y : OwT} : HopOk b h x y → x.2.2.2 = p → y.2 = t → x.1 ≤ w → Gd b h p t w x y
  | on {x x' : StV} {y y' : OwT} : HopOk b h x y → Gd b h p t w x' y' → x'.2.2.1 = x.2.2.2 → y'.1 = y.2 → x.1 < x'.1 → Gd b h p t w x y
theorem Gd.ok {b : BookV} {h : Hab62} {p : Str} {t : List Str} {w : Int} {x : StV} {y : OwT} (g : Gd b h p t w x y) : HopOk b h x y := by
  cases g with
  | ends h _ _ _ => exact h
  | on h _ _ _ _ => exact h
def hopV (x : StV) (y : OwT) : HopV := (x.2.1, x.2.2.1, x.2.2.2, y.1)
def limV (s : Ver62 × List HopV) (v : VKy) : Int := (dFind s.1 v).getD (-1)
theorem trin_up {x : StV} {s : Ver62 × List HopV} {y : OwT} {v : VKy} : limV s v ≤ limV (trIn x s y) v := by
  unfold trIn limV
  split
  · show (dFind s.1 v).getD (-1) ≤ (dFind (dPut s.1 (x.2.2.1, y.1) (imax ((dFind s.1 (x.2.2.1, y.1)).getD (-1)) (x.1 - 1))) v).getD (-1)
    rw [find_put]
    by_cases e : v = (x.2.2.1, y.1)
    · rw [if_pos e, e]
      exact (@imax_leM _ _).1
    · rw [if_neg e]
      exact Int.le_refl _
  · exact Int.le_refl _
theorem trin_keep {x : StV} {s : Ver62 × List HopV} {y : OwT} {q : HopV} (hq : q ∈ s.2) : q ∈ (trIn x s y).2 := by
  unfold trIn
  split
  · exact List.mem_append_left _ hq
  · exact hq
theorem trins_up {x : StV} {v : VKy} : ∀ {ys : List OwT} {s : Ver62 × List HopV}, limV s v ≤ limV (ys.foldl (trIn x) s) v
  | [], s => Int.le_refl _
  | y :: ys, s => Int.le_trans trin_up (trins_up (ys := ys) (s := trIn x s y))
theorem trins_keep {x : StV} {q : HopV} : ∀ {ys : List OwT} {s : Ver62 × List HopV}, q ∈ s.2 → q ∈ (ys.foldl (trIn x) s).2
  | [], s, h => h
  | y :: ys, s, h => trins_keep (ys := ys) (s := trIn x s y) (trin_keep h)
theorem trins_hit {x : StV} {y : OwT} : ∀ {ys : List OwT} {s : Ver62 × List HopV}, y ∈ ys → x.1 ≤ limV s (x.2.2.2, y.2) → x.1 - 1 ≤ limV (ys.foldl (trIn x) s) (x.2.2.1, y.1) ∧ hopV x y ∈ (ys.foldl (trIn x) s).2
  | z :: ys, s, hy, hl => by
    rcases List.mem_cons.mp hy with rfl | hy
    · have e : trIn x s y = (dPut s.1 (x.2.2.1, y.1) (imax ((dFind s.1 (x.2.2.1, y.1)).getD (-1)) (x.1 - 1)), s.2 ++ [(x.2.1, x.2.2.1, x.2.2.2, y.1)]) := by
        unfold trIn
        exact if_pos (decide_eq_true hl)
      rw [List.foldl_cons]
      constructor
      · refine Int.le_trans ?_ trins_up
        rw [e]
        unfold limV
        show x.1 - 1 ≤ (dFind (dPut s.1 (x.2.2.1, y.1) (imax ((dFind s.1 (x.2.2.1, y.1)).getD (-1)) (x.1 - 1))) (x.2.2.1, y.1)).getD (-1)
        rw [find_put, if_pos rfl]
        exact (@imax_leM _ _).2.1
      · refine trins_keep ?_
        rw [e]
        exact List.mem_append_right _ List.mem_cons_self
    · exact trins_hit (ys := ys) hy (Int.le_trans hl trin_up)
section
variable {kn : Ver62} {h : Hab62}
theorem trs_up {v : VKy} : ∀ {xs : List StV} {s : Ver62 × List HopV}, limV s v ≤ limV (xs.foldl (trOut kn h) s) v
  | [], s => Int.le_refl _
  | x :: xs, s => Int.le_trans (trins_up (ys := m_P_heard_by kn h x) (s := (s.1, s.2))) (trs_up (xs := xs) (s := trOut kn h s x))
theorem trs_keep {q : HopV} : ∀ {xs : List StV} {s : Ver62 × List HopV}, q ∈ s.2 → q ∈ (xs.foldl (trOut kn h) s).2
  | [], s, hq => hq
  | x :: xs, s, hq => trs_keep (xs := xs) (s := trOut kn h s x) (trins_keep (s := (s.1, s.2)) hq)
end
theorem traced_of {b : BookV} {h : Hab62} {p : Str} {t : List Str} {w : Int} {x : StV} {y : OwT} (g : Gd b h p t w x y) : ∀ pre post, (m_P_timed_tellings b).reverse = pre ++ post → x ∈ pre →
    x.1 - 1 ≤ limV (pre.foldl (trOut (m_P_earliest_versions b h) h) ([((p, t), w)], [])) (x.2.2.1, y.1) ∧ hopV x y ∈ (pre.foldl (trOut (m_P_earliest_versions b h) h) ([((p, t), w)], [])).2 := by
  have pw : (m_P_timed_tellings b).reverse.Pairwise fun a c => c.1 ≤ a.1 := List.pairwise_reverse.mpr (timed_pw b)
  have step : ∀ (x : StV) (y : OwT), HopOk b h x y → (∀ p1 p2, (m_P_timed_tellings b).reverse = p1 ++ x :: p2 → x.1 ≤ limV (p1.foldl (trOut (m_P_earliest_versions b h) h) ([((p, t), w)], [])) (x.2.2.2, y.2)) → ∀ pre post, (m_P_timed_tellings b).reverse = pre ++ post → x ∈ pre →
      x.1 - 1 ≤ limV (pre.foldl (trOut (m_P_earliest_versions b h) h) ([((p, t), w)], [])) (x.2.2.1, y.1) ∧ hopV x y ∈ (pre.foldl (trOut (m_P_earliest_versions b h) h) ([((p, t), w)], [])).2 := by
    intro x y ho hl pre post e hx
    obtain ⟨p1, p2, rfl⟩ := List.append_of_mem hx
    have h1 := hl p1 (p2 ++ post) (by rw [e, List.append_assoc]; rfl)
    rw [List.foldl_append, List.foldl_cons]
    have h2 := trins_hit (x := x) (s := ((p1.foldl (trOut (m_P_earliest_versions b h) h) ([((p, t), w)], [])).1, (p1.foldl (trOut (m_P_earliest_versions b h) h) ([((p, t), w)], [])).2)) ho.2 h1
    exact ⟨Int.le_trans h2.1 (trs_up (xs := p2)), trs_keep (xs := p2) h2.2⟩
  induction g with
  | @ends x y ho hp ht hw =>
    refine step x y ho fun p1 p2 _ => ?_
    rw [hp, ht]
    refine Int.le_trans ?_ trs_up
    have e : limV (([((p, t), w)], []) : Ver62 × List HopV) (p, t) = w := by
      unfold limV
      show (dFind [((p, t), w)] (p, t)).getD (-1) = w
      rw [dFind, if_pos rfl]
      rfl
    rw [e]
    exact hw
  | @on x x' y y' ho g e1 e2 hl ih =>
    refine step x y ho fun p1 p2 e => ?_
    have hx' : x' ∈ p1 := by
      have hm : x' ∈ (m_P_timed_tellings b).reverse := List.mem_reverse.mpr g.ok.1
      rw [e] at hm pw
      have pw2 := (List.pairwise_append.mp pw).2.1
      rcases List.mem_append.mp hm with h1 | h1
      · exact h1
      · rcases List.mem_cons.mp h1 with h2 | h2
        · rw [h2] at hl; omega
        · have := (List.pairwise_cons.mp pw2).1 x' h2
          omega
    have := (ih p1 (x :: p2) e hx').1
    rw [e1, e2] at this
    omega
structure TrI (b : BookV) (h : Hab62) (p : Str) (t : List Str) (w : Int) (s : Ver62 × List HopV) : Prop where
  lim : ∀ v l, dFind s.1 v = some l → (v = (p, t) ∧ l = w) ∨ (∃ x y, Gd b h p t w x y ∧ v = (x.2.2.1, y.1) ∧ l = x.1 - 1) ∨ l < 0
  fnd : ∀ q ∈ s.2, ∃ x y, Gd b h p t w x y ∧ q = hopV x y
theorem trin_inv {b : BookV} {h : Hab62} {p : Str} {t : List Str} {w : Int} {x : StV} {y : OwT} {s : Ver62 × List HopV} (ho : HopOk b h x y) (h0 : 0 ≤ x.1) (i : TrI b h p t w s) : TrI b h p t w (trIn x s y) := by
  unfold trIn
  split
  · rename_i hc
    rw [decide_eq_true_eq] at hc
    have g : Gd b h p t w x y := by
      cases hf : dFind s.1 (x.2.2.2, y.2) with
      | none => rw [hf] at hc; have hc2 : x.1 ≤ -1 := hc; omega
      | some l =>
        rw [hf] at hc
        have hc2 : x.1 ≤ l := hc
        rcases i.lim _ l hf with ⟨e, el⟩ | ⟨x', y', g', e, el⟩ | el
        · rw [Prod.mk.injEq] at e
          exact .ends ho e.1 e.2 (by omega)
        · rw [Prod.mk.injEq] at e
          exact .on ho g' e.1.symm e.2.symm (by omega)
        · omega
    refine ⟨fun v l hv => ?_, fun q hq => ?_⟩
    · have hv' : dFind (dPut s.1 (x.2.2.1, y.1) (imax ((dFind s.1 (x.2.2.1, y.1)).getD (-1)) (x.1 - 1))) v = some l := hv
      rw [find_put] at hv'
      by_cases e : v = (x.2.2.1, y.1)
      · rw [if_pos e] at hv'
        have hl := Option.some.inj hv'
        have im := @imax_leM ((dFind s.1 (x.2.2.1, y.1)).getD (-1)) (x.1 - 1)
        rcases im.2.2 with z | z
        · cases hf : dFind s.1 (x.2.2.1, y.1) with
          | none =>
            rw [hf] at z hl
            have z2 : imax (-1) (x.1 - 1) = -1 := z
            have hl2 : imax (-1) (x.1 - 1) = l := hl
            exact .inr (.inr (by omega))
          | some o =>
            rw [hf] at z hl
            have z2 : imax o (x.1 - 1) = o := z
            have hl2 : imax o (x.1 - 1) = l := hl
            have : l = o := by omega
            rw [this, e]
            exact i.lim _ o hf
        · exact .inr (.inl ⟨x, y, g, e, by omega⟩)
      · rw [if_neg e] at hv'
        exact i.lim v l hv'
    · rcases List.mem_append.mp hq with hq | hq
      · exact i.fnd q hq
      · exact ⟨x, y, g, List.mem_singleton.mp hq⟩
  · exact i
theorem traced_iff {b : BookV} {h : Hab62} {p : Str} {t : List Str} {w : Int} (h0 : ∀ x ∈ m_P_timed_tellings b, 0 ≤ x.1) {q : HopV} : q ∈ m_P_traced b h p t w ↔ ∃ x y, Gd b h p t w x y ∧ q = hopV x y := by
  rw [traced_form, mem_srt]
  constructor
  · intro hq
    have key : TrI b h p t w ((m_P_timed_tellings b).reverse.foldl (trOut (m_P_earliest_versions b h) h) ([((p, t), w)], [])) := by
      refine foldl_keepM (P := TrI b h p t w) (fun s x hx i => ?_) ⟨fun v l hv => ?_, fun q hq => nomatch hq⟩
      · refine foldl_keepM (P := TrI b h p t w) (s0 := (s.1, s.2)) (fun s y hy i => ?_) i
        exact trin_inv ⟨List.mem_reverse.mp hx, hy⟩ (h0 x (List.mem_reverse.mp hx)) i
      · have hv' : dFind [((p, t), w)] v = some l := hv
        rw [dFind] at hv'
        by_cases e : (p, t) = v
        · rw [if_pos e] at hv'
          exact .inl ⟨e.symm, (Option.some.inj hv').symm⟩
        · rw [if_neg e] at hv'
          cases hv'
    exact key.fnd q hq
  · rintro ⟨x, y, g, rfl⟩
    exact (traced_of g _ [] (List.append_nil _).symm (List.mem_reverse.mpr g.ok.1)).2
theorem tellings_nd {b : BookV} (h : ∀ x ∈ b.meetings, x.2.1 ≠ x.2.2.1) : (m_P_Book_tellings b).Nodup := by
  rw [tell_form]
  refine List.pairwise_flatMap.mpr ⟨fun q hq => ?_, ?_⟩
  · have hn := h _ (mem_enum hq).2.2
    unfold telOf
    split
    · refine List.pairwise_cons.mpr ⟨fun z hz e => ?_, List.pairwise_cons.mpr ⟨fun z hz => (nomatch hz), List.Pairwise.nil⟩⟩
      rw [List.mem_singleton.mp hz, Prod.mk.injEq, Prod.mk.injEq] at e
      exact hn e.2.1
    · exact List.pairwise_cons.mpr ⟨fun z hz => (nomatch hz), List.Pairwise.nil⟩
  · rw [enum_upto]
    refine List.pairwise_map.mpr (upto_pair fun i j _ hij _ => ?_)
    intro x hx y hy e
    have e1 : ∀ (k : Int) (z : Int × Str × Str), z ∈ telOf (k, nth b.meetings k) → z.1 = k := fun k z hz => by
      unfold telOf at hz
      split at hz
      · rcases List.mem_cons.mp hz with rfl | hz
        · rfl
        · rw [List.mem_singleton.mp hz]
      · rw [List.mem_singleton.mp hz]
    have a := e1 i x hx
    have c := e1 j y hy
    rw [e] at a
    omega
theorem timed_nd {b : BookV} (h : ∀ x ∈ b.meetings, x.2.1 ≠ x.2.2.1) : (m_P_timed_tellings b).Nodup := by
  rw [timed_form]
  refine (srt_perm.nodup_iff).mpr (List.pairwise_map.mpr ?_)
  have hn : (m_P_open_tellings b).Nodup := by
    rw [opent_form]
    exact (tellings_nd h).filter _
  refine List.Pairwise.imp ?_ hn
  intro x y hne e
  rw [Prod.mk.injEq] at e
  exact hne e.2
theorem heard_nd {kn : Ver62} (nd : (kys kn).Nodup) (h : Hab62) (x : StV) : ((m_P_heard_by kn h x).map fun y => y.1).Nodup := by
  rw [heard_form, List.map_map]
  refine List.pairwise_map.mpr ?_
  have h1 : (kn.filter fun q => decide (q.1.1 = x.2.2.1) && decide (q.2 < x.1)).Pairwise fun a c => a.1 ≠ c.1 := List.Pairwise.filter _ (List.pairwise_map.mp nd)
  refine List.Pairwise.imp_of_mem ?_ h1
  intro a c ha hc hne e
  have a1 := (List.mem_filter.mp ha).2
  have c1 := (List.mem_filter.mp hc).2
  rw [Bool.and_eq_true, decide_eq_true_eq] at a1 c1
  exact hne (Prod.ext (a1.1.trans c1.1.symm) e)
theorem trins_sub {x : StV} : ∀ {ys : List OwT} {s : Ver62 × List HopV}, ∃ l, (ys.foldl (trIn x) s).2 = s.2 ++ l ∧ l.Sublist (ys.map (hopV x))
  | [], s => ⟨[], (List.append_nil _).symm, List.Sublist.refl _⟩
  | y :: ys, s => by
    obtain ⟨l, e, hl⟩ := trins_sub (x := x) (ys := ys) (s := trIn x s y)
    rw [List.foldl_cons, e, List.map_cons]
    unfold trIn
    split
    · exact ⟨hopV x y :: l, by rw [List.append_assoc]; rfl, hl.cons_cons _⟩
    · exact ⟨l, rfl, hl.cons _⟩
theorem trs_sub {kn : Ver62} {h : Hab62} : ∀ {xs : List StV} {s : Ver62 × List HopV}, ∃ l, (xs.foldl (trOut kn h) s).2 = s.2 ++ l ∧ l.Sublist (xs.flatMap fun x => (m_P_heard_by kn h x).map (hopV x))
  | [], s => ⟨[], (List.append_nil _).symm, List.Sublist.refl _⟩
  | x :: xs, s => by
    obtain ⟨l1, e1, h1⟩ := trins_sub (x := x) (ys := m_P_heard_by kn h x) (s := (s.1, s.2))
    obtain ⟨l2, e2, h2⟩ := trs_sub (xs := xs) (s := trOut kn h s x)
    have e3 : (trOut kn h s x).2 = s.2 ++ l1 := e1
    rw [List.foldl_cons, e2, e3, List.flatMap_cons, List.append_assoc]
    exact ⟨l1 ++ l2, rfl, h1.append h2⟩
theorem hops_nd {b : BookV} {h : Hab62} (hm : ∀ x ∈ b.meetings, x.2.1 ≠ x.2.2.1) {xs : List StV} (hx : xs.Nodup) (hs : ∀ x ∈ xs, x ∈ m_P_timed_tellings b) : (xs.flatMap fun x => (m_P_heard_by (m_P_earliest_versions b h) h x).map (hopV x)).Nodup := by
  refine List.pairwise_flatMap.mpr ⟨fun x _ => ?_, ?_⟩
  · refine List.pairwise_map.mpr ((List.pairwise_map.mp (heard_nd (ver_lv b h).nd h x)).imp ?_)
    intro y z hne e
    have e2 : y.1 = z.1 := congrArg (fun q : HopV => q.2.2.2) e
    exact hne e2
  · refine List.Pairwise.imp_of_mem ?_ hx
    intro x x' hx1 hx2 hne q hq q' hq' e
    obtain ⟨y, _, rfl⟩ := List.mem_map.mp hq
    obtain ⟨y', _, rfl⟩ := List.mem_map.mp hq'
    have t1 := (timed_mem.mp (hs x hx1)).2
    have t2 := (timed_mem.mp (hs x' hx2)).2
    unfold hopV at e
    rw [Prod.mk.injEq, Prod.mk.injEq, Prod.mk.injEq] at e
    obtain ⟨e1, e2, e3, _⟩ := e
    refine hne (Prod.ext ?_ (Prod.ext e1 (Prod.ext e2 e3)))
    rw [t1, t2, e1]
theorem traced_nd {b : BookV} {h : Hab62} {p : Str} {t : List Str} {w : Int} (hm : ∀ x ∈ b.meetings, x.2.1 ≠ x.2.2.1) : (m_P_traced b h p t w).Nodup := by
  rw [traced_form]
  refine srt_perm.nodup_iff.mpr ?_
  obtain ⟨l, e, hl⟩ := trs_sub (kn := m_P_earliest_versions b h) (h := h) (xs := (m_P_timed_tellings b).reverse) (s := ([((p, t), w)], []))
  rw [e, List.nil_append]
  exact List.Nodup.sublist hl (hops_nd hm ((List.reverse_perm _).nodup_iff.mpr (timed_nd hm)) fun x hx => List.mem_reverse.mp hx)
theorem two_ne {x : Talk} {p : List Str} (h : m_P_is_talk x p = true) : x.2.1 ≠ x.2.2.1 := by
  unfold m_P_is_talk at h
  rw [tup_of4] at h
  unfold m_P_are_two at h
  simp only [Bool.not_true, Bool.false_eq_true, if_false, Bool.and_eq_true, decide_eq_true_eq, Bool.not_eq_true', decide_eq_false_iff_not] at h
  exact h.2.1.2.2
theorem hop_iff {b : BookV} {h : Hab62} {x : StV} {y : OwT} : HopOk b h x y ↔ x ∈ m_P_timed_tellings b ∧ ∃ u, RV (seenV b) (edgesV b) (m_P_as_told h) (x.2.2.1, y.1) u ∧ u < x.1 ∧ y.2 = m_P_as_told h x.2.2.1 y.1 := by
  have l := ver_lv b h
  constructor
  · rintro ⟨h1, h2⟩
    obtain ⟨q, hq, e1, hl, e2⟩ := heard_mem h2
    refine ⟨h1, q.2, ?_, hl, ?_⟩
    · have := l.of q hq
      rw [e2, ← e1]
      exact this
    · rw [e2]
  · rintro ⟨h1, u, r, hl, e⟩
    obtain ⟨z, hz, hl2⟩ := l.le _ _ r
    have := heard_of (h := h) (x := x) hz (by omega)
    rw [← e] at this
    exact ⟨h1, this⟩
abbrev hopQ (h : Hab62) (x : StV) (tl : List Str) : HopL := (x.1, (x.2.1, x.2.2.1, x.2.2.2, tl), m_P_as_told h x.2.2.1 tl)
abbrev qX (q : HopL) : StV := (q.1, q.2.1.1, q.2.1.2.1, q.2.1.2.2.1)
abbrev qY (q : HopL) : OwT := (q.2.1.2.2.2, q.2.2)
def KnownV (b : BookV) (h : Hab62) (x : StV) (tl : List Str) : Prop := ∃ u, RV (seenV b) (edgesV b) (m_P_as_told h) (x.2.2.1, tl) u ∧ u < x.1
structure HSt (b : BookV) (h : Hab62) (pre : List StV) (S : List HopL) : Prop where
  iff : ∀ q, q ∈ S ↔ ∃ x ∈ pre, ∃ tl, q = hopQ h x tl ∧ KnownV b h x tl
  nd : (S.map fun q => q.2.1).Nodup
  pw : S.Pairwise fun a c => a.1 ≤ c.1
theorem tales_iff {b : BookV} {h : Hab62} {pre post : List StV} {x : StV} (e : m_P_timed_tellings b = pre ++ x :: post) {S : List HopL} (hS : HSt b h pre S) {tl : List Str} : tl ∈ talesAt (seenV b) S x ↔ KnownV b h x tl := by
  have pw := timed_pw b
  rw [e] at pw
  have later : ∀ z ∈ x :: post, x.1 ≤ z.1 := fun z hz => by
    cases hz with
    | head => exact Int.le_refl _
    | tail _ hz => exact (List.pairwise_cons.mp (List.pairwise_append.mp pw).2.1).1 z hz
  constructor
  · intro m
    rcases List.mem_append.mp m with m | m
    · obtain ⟨e1, he, rfl⟩ := List.mem_map.mp m
      obtain ⟨h1, h2⟩ := List.mem_filter.mp he
      rw [Bool.and_eq_true, decide_eq_true_eq, decide_eq_true_eq] at h2
      exact ⟨e1.2.1, by rw [← h2.1]; exact .see h1, h2.2⟩
    · obtain ⟨q, hq, rfl⟩ := List.mem_map.mp m
      obtain ⟨h1, h2⟩ := List.mem_filter.mp hq
      rw [Bool.and_eq_true, decide_eq_true_eq, decide_eq_true_eq] at h2
      obtain ⟨x', hx', t', rfl, u, r, lu⟩ := (hS.iff q).mp h1
      refine ⟨x'.1, ?_, h2.2⟩
      have eg : (x'.1, x'.2.2.1, x'.2.2.2) ∈ edgesV b := (edges_mem _).mpr ⟨x', by rw [e]; exact List.mem_append_left _ hx', rfl⟩
      rw [← h2.1]
      exact .hop eg r lu
  · rintro ⟨u, r, lu⟩
    generalize hv : (x.2.2.1, tl) = v at r
    cases r with
    | @see z hz =>
      injection hv with a1 a2
      refine List.mem_append_left _ (List.mem_map.mpr ⟨z, List.mem_filter.mpr ⟨hz, ?_⟩, a2.symm⟩)
      rw [Bool.and_eq_true, decide_eq_true_eq, decide_eq_true_eq]
      exact ⟨a1.symm, lu⟩
    | @hop w h' a c t' he r' lt' =>
      injection hv with a1 a2
      obtain ⟨x', hx', e2⟩ := (edges_mem _).mp he
      injection e2 with e3 e4
      injection e4 with e4 e5
      have hp : x' ∈ pre := by
        rw [e] at hx'
        rcases List.mem_append.mp hx' with z | z
        · exact z
        · have := later x' z
          omega
      have hq : hopQ h x' t' ∈ S := (hS.iff _).mpr ⟨x', hp, t', rfl, h', by rw [← e4]; exact r', by omega⟩
      refine List.mem_append_right _ (List.mem_map.mpr ⟨hopQ h x' t', List.mem_filter.mpr ⟨hq, ?_⟩, ?_⟩)
      · rw [Bool.and_eq_true, decide_eq_true_eq, decide_eq_true_eq]
        exact ⟨by rw [a1, e5], by show x'.1 < x.1; omega⟩
      · show m_P_as_told h x'.2.2.1 t' = tl
        rw [a2, e4]
theorem hst_step {b : BookV} {h : Hab62} (nh : HabNd h) (nt : (m_P_timed_tellings b).Nodup) {pre post : List StV} {x : StV} (e : m_P_timed_tellings b = pre ++ x :: post) {S : List HopL} (hS : HSt b h pre S) : HSt b h (pre ++ [x]) (hopOut (seenV b) h S x) := by
  have pw := timed_pw b
  have nt' := nt
  rw [e] at pw nt'
  rw [hopOut_eq]
  have en : (srtSetT (talesAt (seenV b) S x)).map (fun t => ((x.1, (x.2.1, x.2.2.1, x.2.2.2, t), m_L_told h x.2.2.1 t) : HopL)) = (srtSetT (talesAt (seenV b) S x)).map (hopQ h x) := List.map_congr_left fun t _ => by rw [ltold_eq nh]
  rw [en]
  have mt : ∀ z, z ∈ pre → z ∈ m_P_timed_tellings b := fun z hz => by rw [e]; exact List.mem_append_left _ hz
  have mx : x ∈ m_P_timed_tellings b := by rw [e]; exact List.mem_append_right _ (.head _)
  refine ⟨fun q => ?_, ?_, ?_⟩
  · rw [List.mem_append, hS.iff]
    constructor
    · rintro (⟨z, hz, r⟩ | m)
      · exact ⟨z, List.mem_append_left _ hz, r⟩
      · obtain ⟨t, ht, rfl⟩ := List.mem_map.mp m
        exact ⟨x, List.mem_append_right _ (.head _), t, rfl, (tales_iff e hS).mp (mem_srtSetT.mp ht)⟩
    · rintro ⟨z, hz, t, rfl, k⟩
      rcases List.mem_append.mp hz with hz | hz
      · exact .inl ⟨z, hz, t, rfl, k⟩
      · rw [List.mem_singleton.mp hz] at k ⊢
        exact .inr (List.mem_map.mpr ⟨t, mem_srtSetT.mpr ((tales_iff e hS).mpr k), rfl⟩)
  · rw [List.map_append, List.map_map]
    refine List.nodup_append.mpr ⟨hS.nd, ?_, fun a ha c hc ec => ?_⟩
    · refine List.pairwise_map.mpr ((nd_srtSetT _).imp fun {a c} ne z => ne ?_)
      injection z with _ z
      injection z with _ z
      injection z with _ z
    · rw [← ec] at hc
      obtain ⟨q, hq, rfl⟩ := List.mem_map.mp ha
      obtain ⟨t, _, e3⟩ := List.mem_map.mp hc
      obtain ⟨x', hx', t', rfl, _⟩ := (hS.iff q).mp hq
      have e4 : (x.2.1, x.2.2.1, x.2.2.2, t) = (x'.2.1, x'.2.2.1, x'.2.2.2, t') := e3
      injection e4 with e5 e6
      injection e6 with e6 e7
      injection e7 with e7 e8
      have eh : x'.1 = x.1 := by rw [(timed_mem.mp (mt x' hx')).2, (timed_mem.mp mx).2, e5]
      have ex : x' = x := Prod.ext eh (Prod.ext e5.symm (Prod.ext e6.symm e7.symm))
      rw [ex] at hx'
      exact (List.nodup_append.mp nt').2.2 x hx' x (.head _) rfl
  · refine List.pairwise_append.mpr ⟨hS.pw, List.pairwise_map.mpr (List.Pairwise.imp (R := fun _ _ => True) (fun _ => Int.le_refl _) (List.pairwise_of_forall (fun _ _ => trivial))), fun a ha c hc => ?_⟩
    obtain ⟨t, _, rfl⟩ := List.mem_map.mp hc
    obtain ⟨x', hx', t', rfl, _⟩ := (hS.iff a).mp ha
    exact (List.pairwise_append.mp pw).2.2 x' hx' x (.head _)
theorem hst_all {b : BookV} {h : Hab62} (nh : HabNd h) (nt : (m_P_timed_tellings b).Nodup) : ∀ (post pre : List StV) (S : List HopL), m_P_timed_tellings b = pre ++ post → HSt b h pre S → HSt b h (m_P_timed_tellings b) (post.foldl (hopOut (seenV b) h) S)
  | [], pre, S, e, hS => by
    rw [e, List.append_nil]
    exact hS
  | x :: post, pre, S, e, hS => hst_all nh nt post (pre ++ [x]) _ (by rw [e, List.append_assoc]; rfl) (hst_step nh nt e hS)
theorem lhops_st {p : List Str} {s : List Sight} {t : List Talk} {y : List Sy} {h : Hab62} (w : SeeV p s t) (nh : HabNd h) (ne : ∀ x ∈ t, x.2.1 ≠ x.2.2.1) : HSt (m_P_Book p s t y) h (m_P_timed_tellings (m_P_Book p s t y)) (m_L_hops (p, s, t, y) h) := by
  have e : m_L_hops (p, s, t, y) h = (m_P_timed_tellings (m_P_Book p s t y)).foldl (hopOut (seenV (m_P_Book p s t y)) h) [] := by
    rw [lhops_form, timed_form, ← lseen_eq w, ← lopen_eq w]
    rfl
  rw [e]
  exact hst_all nh (timed_nd ne) _ [] [] rfl ⟨fun q => ⟨fun z => (nomatch z), fun ⟨_, z, _⟩ => (nomatch z)⟩, .nil, .nil⟩
def trcIn (p : Str) (t : List Str) (w : Int) (s : List HopL) (q : HopL) : List HopL :=
  if (((decide (q.2.1.2.2.1 = p)) && ((decide (q.2.2 = t)) && (decide (q.1 ≤ w)))) || (!decide (((s.filter fun e => ((decide (e.2.1.2.1 = q.2.1.2.2.1)) && ((decide (e.2.1.2.2.2 = q.2.2)) && (decide (q.1 < e.1))))).map fun e => e) = []))) = true then s ++ [(q.1, q.2.1, q.2.2)] else s
theorem ltraced_form (H : List HopL) (p : Str) (t : List Str) (w : Int) : m_L_traced H p t w = srtD pdH ((H.reverse.foldl (trcIn p t w) []).map fun e => e.2.1) := rfl
structure TSt (b : BookV) (h : Hab62) (p : Str) (t : List Str) (w : Int) (pre s : List HopL) : Prop where
  iff : ∀ q, q ∈ s ↔ q ∈ pre ∧ Gd b h p t w (qX q) (qY q)
  sub : s.Sublist pre
theorem tst_step {b : BookV} {h : Hab62} {p : Str} {t : List Str} {w : Int} {H : List HopL} (hH : HSt b h (m_P_timed_tellings b) H) {pre post : List HopL} {q : HopL} (e : H.reverse = pre ++ q :: post) {s : List HopL} (hs : TSt b h p t w pre s) : TSt b h p t w (pre ++ [q]) (trcIn p t w s q) := by
  have inH : ∀ z, z ∈ H ↔ z ∈ pre ++ q :: post := fun z => by rw [← e, List.mem_reverse]
  have okH : ∀ z ∈ H, HopOk b h (qX z) (qY z) := fun z hz => by
    obtain ⟨x, hx, tl, rfl, u, r, lu⟩ := (hH.iff z).mp hz
    exact hop_iff.mpr ⟨hx, u, r, lu, rfl⟩
  have pw : (pre ++ q :: post).Pairwise fun a c => c.1 ≤ a.1 := by
    rw [← e]
    exact List.pairwise_reverse.mpr hH.pw
  have cond : (((decide (q.2.1.2.2.1 = p)) && ((decide (q.2.2 = t)) && (decide (q.1 ≤ w)))) || (!decide (((s.filter fun e => ((decide (e.2.1.2.1 = q.2.1.2.2.1)) && ((decide (e.2.1.2.2.2 = q.2.2)) && (decide (q.1 < e.1))))).map fun e => e) = []))) = true ↔ Gd b h p t w (qX q) (qY q) := by
    rw [Bool.or_eq_true, Bool.and_eq_true, Bool.and_eq_true, decide_eq_true_eq, decide_eq_true_eq, decide_eq_true_eq, Bool.not_eq_true', decide_eq_false_iff_not, List.map_id']
    have ok := okH q ((inH q).mpr (List.mem_append_right _ (.head _)))
    constructor
    · rintro (⟨h1, h2, h3⟩ | ne)
      · exact .ends ok h1 h2 h3
      · obtain ⟨g, hg⟩ := List.exists_mem_of_ne_nil _ ne
        obtain ⟨g1, g2⟩ := List.mem_filter.mp hg
        rw [Bool.and_eq_true, Bool.and_eq_true, decide_eq_true_eq, decide_eq_true_eq, decide_eq_true_eq] at g2
        exact .on ok ((hs.iff g).mp g1).2 g2.1 g2.2.1 g2.2.2
    · intro g
      cases g with
      | ends _ h1 h2 h3 => exact .inl ⟨h1, h2, h3⟩
      | @on _ x' _ y' _ g' h1 h2 h3 =>
        refine .inr fun z => ?_
        obtain ⟨a1, u, a2, a3, a4⟩ := hop_iff.mp g'.ok
        have mH : hopQ h x' y'.1 ∈ H := (hH.iff _).mpr ⟨x', a1, y'.1, rfl, u, a2, a3⟩
        have ey : qY (hopQ h x' y'.1) = y' := Prod.ext rfl a4.symm
        have mp : hopQ h x' y'.1 ∈ pre := by
          rcases List.mem_append.mp ((inH _).mp mH) with m | m
          · exact m
          · cases m with
            | head => exact absurd h3 (Int.lt_irrefl _)
            | tail _ m =>
              have := (List.pairwise_cons.mp (List.pairwise_append.mp pw).2.1).1 _ m
              exact absurd h3 (Int.not_lt.mpr this)
        have ms : hopQ h x' y'.1 ∈ s := (hs.iff _).mpr ⟨mp, by rw [ey]; exact g'⟩
        have mf : hopQ h x' y'.1 ∈ s.filter fun e => ((decide (e.2.1.2.1 = q.2.1.2.2.1)) && ((decide (e.2.1.2.2.2 = q.2.2)) && (decide (q.1 < e.1)))) := List.mem_filter.mpr ⟨ms, by
          rw [Bool.and_eq_true, Bool.and_eq_true, decide_eq_true_eq, decide_eq_true_eq, decide_eq_true_eq]
          exact ⟨h1, h2, h3⟩⟩
        rw [z] at mf
        exact nomatch mf
  unfold trcIn
  by_cases c : Gd b h p t w (qX q) (qY q)
  · rw [if_pos (cond.mpr c)]
    refine ⟨fun z => ?_, hs.sub.append (List.Sublist.refl _)⟩
    rw [List.mem_append, List.mem_append, hs.iff, List.mem_singleton]
    constructor
    · rintro (⟨h1, h2⟩ | rfl)
      · exact ⟨.inl h1, h2⟩
      · exact ⟨.inr rfl, c⟩
    · rintro ⟨h1 | h1, h2⟩
      · exact .inl ⟨h1, h2⟩
      · exact .inr h1
  · rw [if_neg fun z => c (cond.mp z)]
    refine ⟨fun z => ?_, hs.sub.trans (List.sublist_append_left _ _)⟩
    rw [List.mem_append, hs.iff, List.mem_singleton]
    constructor
    · exact fun ⟨h1, h2⟩ => ⟨.inl h1, h2⟩
    · rintro ⟨h1 | h1, h2⟩
      · exact ⟨h1, h2⟩
      · rw [h1] at h2
        exact absurd h2 c
theorem tst_all {b : BookV} {h : Hab62} {p : Str} {t : List Str} {w : Int} {H : List HopL} (hH : HSt b h (m_P_timed_tellings b) H) : ∀ (post pre s : List HopL), H.reverse = pre ++ post → TSt b h p t w pre s → TSt b h p t w H.reverse (post.foldl (trcIn p t w) s)
  | [], pre, s, e, hs => by
    rw [e, List.append_nil]
    exact hs
  | q :: post, pre, s, e, hs => tst_all hH post (pre ++ [q]) _ (by rw [e, List.append_assoc]; rfl) (tst_step hH e hs)
theorem ti_H : TI pdH := ti_t4 ti_int ti_str ti_str (ti_vtup ti_str)
theorem ltraced_eq {b : BookV} {h : Hab62} {p : Str} {t : List Str} {w : Int} {H : List HopL} (hH : HSt b h (m_P_timed_tellings b) H) (h0 : ∀ x ∈ m_P_timed_tellings b, 0 ≤ x.1) (ne : ∀ x ∈ b.meetings, x.2.1 ≠ x.2.2.1) : m_L_traced H p t w = m_P_traced b h p t w := by
  have T := tst_all (p := p) (t := t) (w := w) hH H.reverse [] [] rfl ⟨fun q => ⟨fun z => (nomatch z), fun z => (nomatch z.1)⟩, .slnil⟩
  rw [ltraced_form]
  have nd1 : ((H.reverse.foldl (trcIn p t w) []).map fun e => e.2.1).Nodup := by
    refine List.Pairwise.sublist (T.sub.map _) ?_
    rw [List.map_reverse]
    exact List.pairwise_reverse.mpr (hH.nd.imp fun z e => z e.symm)
  have nd2 := traced_nd (b := b) (h := h) (p := p) (t := t) (w := w) ne
  have mem : ∀ q, q ∈ m_P_traced b h p t w ↔ q ∈ (H.reverse.foldl (trcIn p t w) []).map fun e => e.2.1 := fun q => by
    rw [traced_iff h0, List.mem_map]
    constructor
    · rintro ⟨x, y, g, rfl⟩
      obtain ⟨a1, u, a2, a3, a4⟩ := hop_iff.mp g.ok
      have ey : qY (hopQ h x y.1) = y := Prod.ext rfl a4.symm
      exact ⟨hopQ h x y.1, (T.iff _).mpr ⟨List.mem_reverse.mpr ((hH.iff _).mpr ⟨x, a1, y.1, rfl, u, a2, a3⟩), by rw [ey]; exact g⟩, rfl⟩
    · rintro ⟨q', hq, rfl⟩
      exact ⟨qX q', qY q', ((T.iff _).mp hq).2, rfl⟩
  rw [traced_form] at nd2 mem ⊢
  exact srt_as_nd ti_H nd1 (srt_perm.nodup_iff.mp nd2) fun q => by rw [← mem q, mem_srt]
theorem right_true {b : BookV} {h : Hab62} {B : LBk} {H : List HopL} (hH : HSt b h (m_P_timed_tellings b) H) (h0 : ∀ x ∈ m_P_timed_tellings b, 0 ≤ x.1) (ne : ∀ x ∈ b.meetings, x.2.1 ≠ x.2.2.1) (c : Str × List Str × Int) : m_L_right B h b H c = true := by
  unfold m_L_right
  simp only [lt]
  rw [ltraced_eq (p := c.1) (t := c.2.1) (w := c.2.2) hH h0 ne, decide_eq_true rfl]
  show lp (loopL (R := Bool) (fun (_ : Unit) (_ : HopV) => Ret.nx ()) (m_P_traced b h c.1 c.2.1 c.2.2) ()) (fun _ => true) = true
  rw [loop_fold]
  rfl
theorem law_true (ns : List Int) (hpre : ns.length ≤ 63) : m_L_law ns = true := by
  unfold m_L_law
  simp only [lt]
  generalize hbs : m_L_mix (cut ns none (some 63)).sum 1 = base
  have hb0 : 0 ≤ base := by rw [← hbs]; exact mixV _ _
  have hnp : NamesOk (m_L_names base (2 + base % 4)) := namesV_ok _ (by omega)
  have hpl : 2 ≤ (m_L_names base (2 + base % 4)).length ∧ (m_L_names base (2 + base % 4)).length ≤ 6 := by rw [names61_len]; omega
  generalize m_L_names base (2 + base % 4) = p at hnp hpl
  have hnw : NamesOk (m_L_names (m_L_mix base 2) 4) := namesV_ok _ (by omega)
  have hwl : (m_L_names (m_L_mix base 2) 4).length = 4 := by rw [names61_len]; rfl
  generalize m_L_names (m_L_mix base 2) 4 = w at hnw hwl
  have hfar : 0 ≤ m_L_mix base 3 % 3 ∧ m_L_mix base 3 % 3 ≤ 2 := by omega
  generalize m_L_mix base 3 % 3 = f at hfar
  have hsg := sightsV (c := m_L_mix (m_L_cell_at ns 0) 4) (p := p) (by omega) hnw.ok (by omega) hfar
  generalize m_L_sights (m_L_mix (m_L_cell_at ns 0) 4) p w f = s at hsg
  have htk := talksV (cells := cut ns (some 1) (some 19)) hnp.nd (by omega) hfar
  have htl : (m_L_talks (cut ns (some 1) (some 19)) p f).length ≤ 63 := by rw [htk.2]; exact Nat.le_trans cut_len hpre
  generalize m_L_talks (cut ns (some 1) (some 19)) p f = t at htk htl
  have hsy : ∀ x ∈ (cut ns (some 19) (some 25)).map (fun e => m_L_saying e p f), m_P_is_saying x p = true := fun x hx => by
    obtain ⟨c, _, rfl⟩ := List.mem_map.mp hx
    exact sayV hnp.nd (by omega) hfar
  have hsyl : ((cut ns (some 19) (some 25)).map (fun e => m_L_saying e p f)).length ≤ 60 := by
    rw [List.length_map]
    have := cut_len2 (xs := ns) (i := 19) (j := 25) (by omega)
    omega
  generalize (cut ns (some 19) (some 25)).map (fun e => m_L_saying e p f) = y at hsy hsyl
  have hgb : goodBook p s t y := goodV_of hnp (by omega) (fun x hx => (hsg.1 x hx).1) htk.1 hsy (by omega) (by omega) hsyl
  have bk := bk_of hgb
  have hnd : HabNd (m_L_habits (m_L_mix base 5) p (cut w none (some 3))) := hab_ndV (cut_nd hnw.nd)
  generalize m_L_habits (m_L_mix base 5) p (cut w none (some 3)) = h at hnd
  have sv := seeV_of (fun x hx => (hsg.1 x hx).1) htk.1
  have ne : ∀ x ∈ t, x.2.1 ≠ x.2.2.1 := fun x hx => two_ne (htk.1 x hx)
  have hH := lhops_st (y := y) sv hnd ne
  have h0 := timed_pos sv bk
  generalize m_L_hops (p, s, t, y) h = H at hH
  generalize List.foldl _ _ (upto (imin 4 (H.length : Int))) = cs
  have hl : loopL (R := Bool) (fun (_ : Unit) (x : Str × List Str × Int) => if (!m_L_right (p, s, t, y) h (m_P_Book p s t y) H x) = true then Ret.rt false else Ret.nx ()) cs () = Ret.nx () := by
    induction cs with
    | nil => rfl
    | cons c cs ih =>
      rw [loopL, right_true hH h0 ne c]
      exact ih
  rw [hl]
  show decide True = true
  exact decide_eq_true trivial
end Kn
namespace Kn
open PySem PySem.Spec L2
theorem hd_all {P : Program} {w : World} {K : PySem.W.Frag} {mg : Str → Option Value} {base h : Heap} (X : K.In h) (Gm : h.Ns mainGlobals mg) (c : SaysM hdFa hdFn hdEx K) : All ⟨P, w, K, mg, base⟩ where
  d_L_mix := def_of X Gm c.d (i := 0) (j := 0) rfl rfl
  d_L_names := def_of X Gm c.d (i := 1) (j := 1) rfl rfl
  d_L_hour := def_of X Gm c.d (i := 2) (j := 2) rfl rfl
  d_L_sights := def_of X Gm c.d (i := 3) (j := 3) rfl rfl
  d_L_talks := def_of X Gm c.d (i := 4) (j := 4) rfl rfl
  d_L_habits := def_of X Gm c.d (i := 5) (j := 5) rfl rfl
  d_P_is_name := def_of X Gm c.d (i := 6) (j := 6) rfl rfl
  d_P_are_persons := def_of X Gm c.d (i := 7) (j := 7) rfl rfl
  d_P_is_tuple_of := def_of X Gm c.d (i := 8) (j := 8) rfl rfl
  d_P_is_whole := def_of X Gm c.d (i := 9) (j := 9) rfl rfl
  d_P_is_hour := def_of X Gm c.d (i := 10) (j := 10) rfl rfl
  d_P_is_tale := def_of X Gm c.d (i := 11) (j := 11) rfl rfl
  d_P_is_sight := def_of X Gm c.d (i := 12) (j := 12) rfl rfl
  d_P_are_all := def_of X Gm c.d (i := 13) (j := 13) rfl rfl
  d_P_are_two := def_of X Gm c.d (i := 14) (j := 14) rfl rfl
  d_P_is_talk := def_of X Gm c.d (i := 15) (j := 15) rfl rfl
  d_P_is_saying := def_of X Gm c.d (i := 16) (j := 16) rfl rfl
  d_P_greater_floor := def_of X Gm c.d (i := 17) (j := 17) rfl rfl
  d_P_floors := def_of X Gm c.d (i := 18) (j := 18) rfl rfl
  d_P_spans_of := def_of X Gm c.d (i := 19) (j := 19) rfl rfl
  d_P_bars_of := def_of X Gm c.d (i := 20) (j := 20) rfl rfl
  d_P_is_above := def_of X Gm c.d (i := 21) (j := 21) rfl rfl
  d_P_is_within := def_of X Gm c.d (i := 22) (j := 22) rfl rfl
  d_P_open_tellings := def_of X Gm c.d (i := 23) (j := 23) rfl rfl
  d_P_timed_tellings := def_of X Gm c.d (i := 24) (j := 24) rfl rfl
  d_P_as_told := def_of X Gm c.d (i := 25) (j := 25) rfl rfl
  d_P_heard_by := def_of X Gm c.d (i := 26) (j := 26) rfl rfl
  d_P_open_sights := def_of X Gm c.d (i := 27) (j := 27) rfl rfl
  d_P_earliest_versions := def_of X Gm c.d (i := 28) (j := 28) rfl rfl
  d_P_traced := def_of X Gm c.d (i := 29) (j := 29) rfl rfl
  d_L_floor := def_of X Gm c.d (i := 30) (j := 30) rfl rfl
  d_L_seen := def_of X Gm c.d (i := 31) (j := 31) rfl rfl
  d_L_shut := def_of X Gm c.d (i := 32) (j := 32) rfl rfl
  d_L_open := def_of X Gm c.d (i := 33) (j := 33) rfl rfl
  d_L_told := def_of X Gm c.d (i := 34) (j := 34) rfl rfl
  d_L_hops := def_of X Gm c.d (i := 35) (j := 35) rfl rfl
  d_L_saying := def_of X Gm c.d (i := 36) (j := 36) rfl rfl
  d_L_cell_at := def_of X Gm c.d (i := 37) (j := 37) rfl rfl
  d_L_traced := def_of X Gm c.d (i := 38) (j := 38) rfl rfl
  d_L_right := def_of X Gm c.d (i := 39) (j := 39) rfl rfl
  d_L_law := def_of X Gm c.d (i := 40) (j := 40) rfl rfl
  d_P_Book_sights := defM_of X Gm c.d (i := 41) (j := 41) (k := 42) (l := 43) rfl rfl rfl rfl
  d_P_Book_talks := defM_of X Gm c.d (i := 42) (j := 41) (k := 42) (l := 44) rfl rfl rfl rfl
  d_P_Book_persons := defM_of X Gm c.d (i := 43) (j := 41) (k := 42) (l := 45) rfl rfl rfl rfl
  d_P_Book_sayings := defM_of X Gm c.d (i := 44) (j := 41) (k := 42) (l := 46) rfl rfl rfl rfl
  d_P_Book_tellings := defM_of X Gm c.d (i := 45) (j := 41) (k := 42) (l := 47) rfl rfl rfl rfl
  i_Book := defI_of X Gm c.d (i := 46) (j := 41) (k := 42) (l := 48) rfl rfl rfl rfl
  a_Book_claims := noat_of X Gm c.d (j := 41) (k := 49) rfl rfl
  a_Book_crew := noat_of X Gm c.d (j := 41) (k := 50) rfl rfl
  a_Book_meetings := noat_of X Gm c.d (j := 41) (k := 51) rfl rfl
  a_Book_views := noat_of X Gm c.d (j := 41) (k := 52) rfl rfl
  b_bool := He.free_ok X Gm (c.d.fact 53 (f := .free "bool") rfl)
  b_dict := He.free_ok X Gm (c.d.fact 54 (f := .free "dict") rfl)
  b_enumerate := He.free_ok X Gm (c.d.fact 55 (f := .free "enumerate") rfl)
  b_int := He.free_ok X Gm (c.d.fact 56 (f := .free "int") rfl)
  b_isinstance := He.free_ok X Gm (c.d.fact 57 (f := .free "isinstance") rfl)
  b_len := He.free_ok X Gm (c.d.fact 58 (f := .free "len") rfl)
  b_list := He.free_ok X Gm (c.d.fact 59 (f := .free "list") rfl)
  b_max := He.free_ok X Gm (c.d.fact 60 (f := .free "max") rfl)
  b_min := He.free_ok X Gm (c.d.fact 61 (f := .free "min") rfl)
  b_range := He.free_ok X Gm (c.d.fact 62 (f := .free "range") rfl)
  b_reversed := He.free_ok X Gm (c.d.fact 63 (f := .free "reversed") rfl)
  b_set := He.free_ok X Gm (c.d.fact 64 (f := .free "set") rfl)
  b_sorted := He.free_ok X Gm (c.d.fact 65 (f := .free "sorted") rfl)
  b_str := He.free_ok X Gm (c.d.fact 66 (f := .free "str") rfl)
  b_sum := He.free_ok X Gm (c.d.fact 67 (f := .free "sum") rfl)
  b_tuple := He.free_ok X Gm (c.d.fact 68 (f := .free "tuple") rfl)
  c_KEPT_WORDS := ⟨_, He.glo_ok X Gm (c.d.fact 69 (f := .glo "KEPT_WORDS") rfl), tab_str (l := K_KEPT_WORDS) c.m⟩
  c_LAST_HOUR := He.int_ok X Gm (c.d.fact 70 (f := .int "LAST_HOUR" 1000000000000000000) rfl)
  c_LETTERS := He.str_ok X Gm (c.d.fact 71 (f := .str "LETTERS" K_LETTERS) rfl)
  c_LONGEST := He.int_ok X Gm (c.d.fact 72 (f := .int "LONGEST" 12) rfl)
  c_MOST_PERSONS := He.int_ok X Gm (c.d.fact 73 (f := .int "MOST_PERSONS" 24) rfl)
  c_MOST_SAYINGS := He.int_ok X Gm (c.d.fact 74 (f := .int "MOST_SAYINGS" 60) rfl)
  c_MOST_SIGHTS := He.int_ok X Gm (c.d.fact 75 (f := .int "MOST_SIGHTS" 24) rfl)
  c_MOST_TALKS := He.int_ok X Gm (c.d.fact 76 (f := .int "MOST_TALKS" 120) rfl)
  c_MOST_VERSIONS := He.int_ok X Gm (c.d.fact 77 (f := .int "MOST_VERSIONS" 400) rfl)
  c_MOST_WORDS := He.int_ok X Gm (c.d.fact 78 (f := .int "MOST_WORDS" 6) rfl)
theorem hd_facts {P : Program} {w : World} {K : PySem.W.Frag} {h : Heap} {mg : Str → Option Value} {f : Addr} (X : K.In h) (Gm : h.Ns mainGlobals mg) (hfa : mg ("law" : Str) = some (.ref f)) (c : SaysM hdFa hdFn hdEx K) :
    ∃ fd : FuncData, (∀ (s : Shared) (v : Value), BindsTo s fd ⟨[v], []⟩ [("_law_script", v)]) ∧ ∀ (c0 P0 : Addr) (base : Heap), (∀ (f : Addr) (o : Obj) (fd : FuncData), mg "earliest_versions" = some (.ref f) → K.lookup f = some o → o.data = .func fd → fd.code = .ref c0) → K.In base → base.Ns mainGlobals mg → LamX.TabB base mg c0 P0 → FnOk P w K mg base (CX P w) 10 f fd ["_law_script"] (spD (spT K "earliest_versions" P0)) := by
  obtain ⟨fd, F⟩ := c.d.def_ 40 (d := ⟨("law", none), "law", "law", defArgs (top 62), defBody (top 62), defScope (top 62), [], []⟩) rfl
  have e := hfa.symm.trans (He.glo_ok X Gm (c.d.fact 40 (f := .glo "law") rfl))
  cases e
  have b := FunD.bindsA (ps := ["_law_script"]) F fun _ _ _ _ _ _ us hl => match us, hl with | [_], _ => rfl
  refine ⟨fd, fun s v => b s [v] rfl, fun c0 P0 base hcd _ _ hT => ?_⟩
  refine fn_ok (G := ⟨P, w, K, mg, base⟩) (S := spT K "earliest_versions" P0) (N := N_L_law) (ps := ["_law_script"]) F (scope_of rfl rfl rfl (by decide +kernel)) (fun ds O rk q => ?_) (fun ds O rk q => ?_)
  · obtain ⟨ns, _, _, rfl, _⟩ := q; rfl
  · obtain ⟨ns, hl, rfl, rfl, rfl⟩ := q
    exact ⟨_, _, _, _, b_L_law (hd_all X Gm c) _ ns ⟨hl, 0, c0, P0, rfl, hcd, hT⟩, by show RK.val (dB (m_L_law ns)) _ = _; rw [law_true ns hl]⟩
end Kn
open PySem PySem.W PySem.Calls PyProof.Rows
theorem PySem.Challenge.cw_knewby_k64_hops_traced_holds : PySem.Challenge.rw_knewby_k64_hops_traced.Holds := by
  w_on; o_law
  refine HandSHeadRun.head_any (r := OpenLaw.row PySem.Challenge.rw_knewby_k64_hops_traced) (q := view (OpenLaw.row PySem.Challenge.rw_knewby_k64_hops_traced).prog [20, 62]) (H := Kn.hdHk) (ob := Kn.hdOb) (M := 8000) (loose := Kn.hdLoose) (d := HandSHeadRun.topDef (OpenLaw.row PySem.Challenge.rw_knewby_k64_hops_traced).prog 62) (kwd := []) Kn.hdOb_eq
    (by kernel_rfl) (fun s => by kernel_rfl) Kn.hd_run (by kernel_rfl) (by kernel_rfl) (by kernel_rfl) (by rfl) (by first | assumption | decide +kernel) (by decide +kernel) ⟨rfl, rfl, rfl, rfl, rfl, by decide +kernel⟩ ?hw ?hc
  case hw => w_witness2
  case hc =>
    refine Kn.walk_knT (l := PySem.Challenge.rw_knewby_k64_hops_traced) (k := 10) (x := "_law_script") (x0 := "earliest_versions") rfl (by kernel_rfl) ⟨rfl, by decide, by decide⟩ (by kernel_rfl) ?F
    intro w mg fa h Y Gm hmg0
    obtain ⟨K, KX, hE, c⟩ := Y
    have hmg : mg ("law" : PySem.Str) = some (.ref fa) := by
      have e : (HandSHeadRun.topDef (OpenLaw.row PySem.Challenge.rw_knewby_k64_hops_traced).prog 62).name = ("law" : PySem.Str) := by kernel_rfl
      rw [← e]
      exact hmg0
    obtain ⟨fd, hb, hF⟩ := Kn.hd_facts (P := (PySem.Challenge.rw_knewby_k64_hops_traced).prog) (w := w) KX Gm hmg c
    exact ⟨K, fd, KX, hE, hb, hF⟩
