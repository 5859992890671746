import PyProof.Rows.All
import Wide.All
import OpenK.AllK
import Wide.FinOn
import HandS.ForMost
import HandS.Exc
import HandS.WordsExc
import HandS.Defaults
import HandS.IsInst
import HandS.Wide
import HandS.Deep
import KE.KStateDown
import HandS.Ends
import HandS.More
import HandS.Head0
import HandS.Head1
import HandS.Head2
import HandS.HeadEnd
import HandS.HeadHook1
import HandS.HeadHook2
import HandS.Codes
import HandS.Dict
import HandS.List
import HandS.Zip
import HandS.Strs
import HandS.Iter
import HandS.Conv
import HandS.SetKeys
import HandS.TupAny
import KE.SortData
import HandS.Text
import HandS.Style
import PyProof.FitsInt
import PyProof.StrBlock2
import HandS.TupLe
import HandS.SortKw
import HandS.ExcOwn
import HandS.ExcIs
import KE.KExcIs
import HandS.Rev
import KE.KDictList
import KE.KeyNested
import KE.KDictWalk
import KE.KDictKeyed
import HandS.TupLen
import HandS.SetFor
import KE.SortCalls
import KE.DataCmp
import HandS.Set
import HandS.ExcInit
import HandS.ExcField
import OpenK.KCls
import HandS.TupMul
import KE.KIntText
import PySem.Challenge.RW_knewby_k75_whole_bounds
set_option Elab.async false
set_option linter.all false
set_option maxRecDepth 100000
set_option maxHeartbeats 4000000
namespace Kn
open PySem PySem.Spec PyProof.Rows L2
def Gw (H H' : Hp) : Prop := ∀ a o, H a = some o → H' a = some o
theorem Gw.refl (H : Hp) : Gw H H := fun _ _ h => h
theorem Gw.trans {H H1 H2 : Hp} (a : Gw H H1) (b : Gw H1 H2) : Gw H H2 := fun x o h => b x o (a x o h)
theorem Gw.new {H : Hp} {p : Addr} {o : HO} (h : H p = none) : Gw H (upd H p o) := fun a u e => by
  rw [upd_ne (ne_of_none e h)]
  exact e
theorem Gw.free {H H' : Hp} (e : Gw H H') {p : Addr} (h : H' p = none) : H p = none := by
  cases q : H p with
  | none => rfl
  | some o => rw [e p o q] at h; cases h
theorem Gw.upd {H H' : Hp} (e : Gw H H') {p : Addr} {o : HO} (h : H' p = none) : Gw (upd H p o) (upd H' p o) := fun a u q => by
  by_cases ha : a = p
  · subst ha; rw [upd_same] at q ⊢; exact q
  · rw [upd_ne ha] at q ⊢; exact e a u q
theorem gw_rd {H H' : Hp} {a : Addr} {u : HO} (e : Gw H H') (h : Rd H a u) : Rd H' a u := by
  rcases h with h | ⟨o, h⟩
  · exact Or.inl (e a _ h)
  · exact Or.inr ⟨o, e a _ h⟩
theorem gw_l {K : PySem.W.Frag} {H H' : Hp} {a : Addr} {xs : List V} (e : Gw H H') (h : SqL K H a xs) : SqL K H' a xs := by
  rcases h with h | h
  · exact Or.inl (gw_rd e h)
  · exact Or.inr h
theorem gw_t {K : PySem.W.Frag} {H H' : Hp} {a : Addr} {xs : List V} (e : Gw H H') (h : SqT K H a xs) : SqT K H' a xs := by
  rcases h with h | h
  · exact Or.inl (gw_rd e h)
  · exact Or.inr h
structure D where
  ok : Hp → V → Prop
  mono : ∀ {F F' : Hp} {v : V}, Gw F F' → ok F v → ok F' v
def dV (v : V) : D := ⟨fun _ u => u = v, fun _ h => h⟩
abbrev dN : D := dV .non
abbrev dI (i : Int) : D := dV (.int i)
abbrev dB (b : Bool) : D := dV (.bl b)
def okS (s : Str) : Prop := PyData.strOk s = true ∧ s.length ≤ sizeLine
def okSb (s : Str) : Bool := PyData.strOk s && decide (s.length ≤ 16777216)
theorem okS_of {s : Str} (h : okSb s = true) : okS s := by
  unfold okSb at h
  simp only [Bool.and_eq_true, decide_eq_true_eq] at h
  exact ⟨h.1, by rw [sizeLine_eq]; exact h.2⟩
def dS (s : Str) : D := ⟨fun _ v => v = .str s ∧ okS s, fun _ h => h⟩
theorem strOk_iff {s : Str} : PyData.strOk s = true ↔ ∀ c ∈ s.cps.toList, c < 0x110000 := by
  unfold PyData.strOk
  rw [Array.all_eq_true']
  constructor
  · intro h c hc
    exact of_decide_eq_true (h c (Array.mem_toList_iff.mp hc))
  · intro h c hc
    exact decide_eq_true (h c (Array.mem_toList_iff.mpr hc))
theorem okS_app {i j : Str} (hi : okS i) (hj : okS j) (hl : i.length + j.length ≤ sizeLine) : okS (i ++ j) := by
  have e : (i ++ j).cps.toList = i.cps.toList ++ j.cps.toList := by
    show (i.cps ++ j.cps).toList = _
    exact Array.toList_append
  refine ⟨strOk_iff.mpr fun c hc => ?_, ?_⟩
  · rw [e] at hc
    rcases List.mem_append.mp hc with h | h
    · exact strOk_iff.mp hi.1 c h
    · exact strOk_iff.mp hj.1 c h
  · show (i.cps ++ j.cps).size ≤ _
    rw [Array.size_append]
    exact hl
theorem okS_sign {z : Str} {c : Nat} (hz : okS z) (hc : c ∈ z.cps.toList) : okS ⟨#[c]⟩ := by
  refine ⟨strOk_iff.mpr fun d hd => ?_, ?_⟩
  · have e : d = c := by simpa using hd
    rw [e]
    exact strOk_iff.mp hz.1 c hc
  · rw [sizeLine_eq]
    exact Nat.le_of_ble_eq_true rfl
abbrev dP (a : Addr) : D := dV (.ref a)
def AllD (F : Hp) : List D → List V → Prop
  | [], [] => True
  | d :: ds, v :: vs => d.ok F v ∧ AllD F ds vs
  | _, _ => False
theorem AllD.mono {F F' : Hp} (e : Gw F F') : ∀ {ds : List D} {vs : List V}, AllD F ds vs → AllD F' ds vs
  | [], [], _ => trivial
  | _ :: _, _ :: _, h => ⟨D.mono _ e h.1, AllD.mono e h.2⟩
  | [], _ :: _, h => h.elim
  | _ :: _, [], h => h.elim
theorem AllD.length {F : Hp} : ∀ {ds : List D} {vs : List V}, AllD F ds vs → vs.length = ds.length
  | [], [], _ => rfl
  | _ :: _, _ :: _, h => by simp [AllD.length h.2]
  | [], _ :: _, h => h.elim
  | _ :: _, [], h => h.elim
theorem AllD.get {F : Hp} : ∀ {ds : List D} {vs : List V} {i : Nat} {d : D}, AllD F ds vs → ds[i]? = some d → ∃ v, vs[i]? = some v ∧ d.ok F v
  | [], [], _, _, _, e => by simp at e
  | _ :: _, v :: _, 0, _, h, e => by simp at e; subst e; exact ⟨v, rfl, h.1⟩
  | _ :: _, _ :: _, i + 1, d, h, e => by
    obtain ⟨v, h1, h2⟩ := AllD.get (i := i) (d := d) h.2 (by simpa using e)
    exact ⟨v, by simpa using h1, h2⟩
  | [], _ :: _, _, _, h, _ => h.elim
  | _ :: _, [], _, _, h, _ => h.elim
theorem AllD.append {F : Hp} : ∀ {ds es : List D} {vs us : List V}, AllD F ds vs → AllD F es us → AllD F (ds ++ es) (vs ++ us)
  | [], _, [], _, _, q => q
  | _ :: _, _, _ :: _, _, h, q => ⟨h.1, AllD.append h.2 q⟩
  | [], _, _ :: _, _, h, _ => h.elim
  | _ :: _, _, [], _, h, _ => h.elim
theorem AllD.drop {F : Hp} : ∀ {ds : List D} {vs : List V} (n : Nat), AllD F ds vs → AllD F (ds.drop n) (vs.drop n)
  | _, _, 0, h => h
  | [], [], _ + 1, h => h
  | _ :: _, _ :: _, n + 1, h => AllD.drop n h.2
  | [], _ :: _, _, h => h.elim
  | _ :: _, [], _, h => h.elim
theorem AllD.take {F : Hp} : ∀ {ds : List D} {vs : List V} (n : Nat), AllD F ds vs → AllD F (ds.take n) (vs.take n)
  | _, _, 0, _ => trivial
  | [], [], _ + 1, h => h
  | _ :: _, _ :: _, n + 1, h => ⟨h.1, AllD.take n h.2⟩
  | [], _ :: _, _, h => h.elim
  | _ :: _, [], _, h => h.elim
theorem AllD.set {F : Hp} {d : D} {v : V} (q : d.ok F v) : ∀ {ds : List D} {vs : List V} (n : Nat), AllD F ds vs → AllD F (ds.set n d) (vs.set n v)
  | [], [], _, h => h
  | _ :: _, _ :: _, 0, h => ⟨q, h.2⟩
  | _ :: _, _ :: _, n + 1, h => ⟨h.1, AllD.set q n h.2⟩
  | [], _ :: _, _, h => h.elim
  | _ :: _, [], _, h => h.elim
theorem AllD.dV {F : Hp} : ∀ {xs vs : List V}, AllD F (xs.map dV) vs → vs = xs
  | [], [], _ => rfl
  | x :: xs, v :: vs, h => by
    have h1 : v = x := h.1
    rw [h1, AllD.dV (xs := xs) (vs := vs) h.2]
  | [], _ :: _, h => h.elim
  | _ :: _, [], h => h.elim
theorem AllD.dS {F : Hp} : ∀ {xs : List Str} {vs : List V}, AllD F (xs.map Kn.dS) vs → vs = xs.map V.str ∧ ∀ s ∈ xs, okS s
  | [], [], _ => ⟨rfl, fun _ h => nomatch h⟩
  | x :: xs, v :: vs, h => by
    have h1 : v = .str x ∧ okS x := h.1
    obtain ⟨h2, h3⟩ := AllD.dS (xs := xs) (vs := vs) h.2
    rw [h1.1, h2]
    refine ⟨rfl, fun s hs => ?_⟩
    rcases List.mem_cons.mp hs with rfl | hs
    · exact h1.2
    · exact h3 s hs
  | [], _ :: _, h => h.elim
  | _ :: _, [], h => h.elim
theorem allD_dS {F : Hp} : ∀ (xs : List Str), (∀ s ∈ xs, okS s) → AllD F (xs.map Kn.dS) (xs.map V.str)
  | [], _ => trivial
  | x :: xs, h => ⟨⟨rfl, h x List.mem_cons_self⟩, allD_dS xs fun s hs => h s (List.mem_cons_of_mem _ hs)⟩
theorem allD_dV {F : Hp} : ∀ (xs : List V), AllD F (xs.map dV) xs
  | [] => trivial
  | _ :: xs => ⟨rfl, allD_dV xs⟩
def dTup (K : PySem.W.Frag) (ds : List D) : D := ⟨fun F u => ∃ a vs, u = .ref a ∧ SqT K F a vs ∧ AllD F ds vs, fun e ⟨a, vs, h1, h2, h3⟩ => ⟨a, vs, h1, gw_t e h2, AllD.mono e h3⟩⟩
def LsA (K : PySem.W.Frag) (F : Hp) (a : Addr) (xs : List V) : Prop := Rd F a (.lst xs) ∨ ∃ (its : Array Value) (n : Nat), K.lookup a = some { cls := .type "list", data := .seq its n } ∧ its.size ≤ sizeLine ∧ Vals xs its.toList
theorem LsA.mono {K : PySem.W.Frag} {F F' : Hp} {a : Addr} {xs : List V} (e : Gw F F') (h : LsA K F a xs) : LsA K F' a xs := h.imp (gw_rd e) id
theorem LsA.sq {K : PySem.W.Frag} {F : Hp} {a : Addr} {xs : List V} (h : LsA K F a xs) : SqL K F a xs := by
  rcases h with h | ⟨its, n, h1, h2, h3⟩
  · exact .inl h
  · exact .inr ⟨_, its, n, h1, rfl, rfl, rfl, h2, h3⟩
theorem LsA.get {X : Cx} {pins : List (Addr × Obj)} {σ : L2.St} {H : Hp} {s : Shared} {a : Addr} {xs : List V} (I : Inv X pins σ H s) (h : LsA X.K H a xs) : ∃ (its : List Value) (n : Nat), Vals xs its ∧ s.heap.get? a = some { cls := .type "list", data := .seq its.toArray n } ∧ xs.length ≤ sizeLine := by
  rcases h with h | ⟨its, n, h1, h2, h3⟩
  · obtain ⟨z, its, n, r, e⟩ := h.ok I.hok
    exact ⟨its, n, r, e, z⟩
  · refine ⟨its.toList, n, h3, I.kIn a _ h1, ?_⟩
    have e := h3.length
    rw [e, Array.length_toList]
    exact h2
def dLst (K : PySem.W.Frag) (ds : List D) : D := ⟨fun F u => ∃ a vs, u = .ref a ∧ LsA K F a vs ∧ AllD F ds vs, fun e ⟨a, vs, h1, h2, h3⟩ => ⟨a, vs, h1, h2.mono e, AllD.mono e h3⟩⟩
def dO {α : Type} (f : α → D) : Option α → D
  | none => dN
  | some a => f a
structure OD where
  ok : Hp → HO → Prop
  mono : ∀ {F F' : Hp} {o : HO}, Gw F F' → ok F o → ok F' o
def oLst (ds : List D) : OD := ⟨fun F o => ∃ vs, o = .lst vs ∧ AllD F ds vs, fun e ⟨vs, h1, h2⟩ => ⟨vs, h1, AllD.mono e h2⟩⟩
abbrev Own := List (Addr × OD)
structure HoldO (F : Hp) (O : Own) (H : Hp) : Prop where
  ex : Gw F H
  nd : (O.map (·.1)).Nodup
  ow : ∀ q ∈ O, F q.1 = none ∧ ∃ o, H q.1 = some o ∧ q.2.ok F o
abbrev Fr := List (Option D)
def FrOk (F : Hp) (Γ : Fr) (σ : L2.St) : Prop := Γ.length = σ.length ∧ ∀ (i : Nat) (d : D), Γ[i]? = some (some d) → ∃ v, σ[i]? = some (some v) ∧ d.ok F v
structure Hold (F : Hp) (Γ : Fr) (O : Own) (σ : L2.St) (H : Hp) : Prop where
  fr : FrOk F Γ σ
  ho : HoldO F O H
theorem FrOk.mono {F F' : Hp} {Γ : Fr} {σ : L2.St} (e : Gw F F') (h : FrOk F Γ σ) : FrOk F' Γ σ := ⟨h.1, fun i d q => by
  obtain ⟨v, h1, h2⟩ := h.2 i d q
  exact ⟨v, h1, d.mono e h2⟩⟩
theorem FrOk.set {F : Hp} {Γ : Fr} {σ : L2.St} {d : D} {v : V} (i : Nat) (h : FrOk F Γ σ) (q : d.ok F v) : FrOk F (Γ.set i (some d)) (σ.set i (some v)) := by
  refine ⟨by rw [List.length_set, List.length_set]; exact h.1, fun j e z => ?_⟩
  by_cases hj : i = j
  · subst hj
    by_cases hi : i < Γ.length
    · rw [List.getElem?_set_self hi] at z
      cases z
      exact ⟨v, by rw [List.getElem?_set_self (by rw [← h.1]; exact hi)], q⟩
    · rw [List.getElem?_eq_none (by rw [List.length_set]; omega)] at z
      cases z
  · rw [List.getElem?_set_ne hj] at z ⊢
    exact h.2 j e z
theorem HoldO.laid {F : Hp} {O : Own} {H : Hp} {p : Addr} {o : HO} (h : HoldO F O H) (hp : H p = none) : HoldO (upd F p o) O (upd H p o) ∧ Gw F (upd F p o) := by
  have hf := h.ex.free hp
  have ef : Gw F (upd F p o) := Gw.new hf
  refine ⟨⟨h.ex.upd hp, h.nd, fun q hq => ?_⟩, ef⟩
  obtain ⟨h1, u, h2, h3⟩ := h.ow q hq
  have hne : q.1 ≠ p := ne_of_none h2 hp
  exact ⟨by rw [upd_ne hne]; exact h1, u, by rw [upd_ne hne]; exact h2, q.2.mono ef h3⟩
theorem HoldO.own {F : Hp} {O : Own} {H : Hp} {p : Addr} {o : HO} {od : OD} (h : HoldO F O H) (hp : H p = none) (ho : od.ok F o) : HoldO F ((p, od) :: O) (upd H p o) := by
  have hf := h.ex.free hp
  refine ⟨h.ex.trans (Gw.new hp), ?_, fun q hq => ?_⟩
  · rw [List.map_cons, List.nodup_cons]
    refine ⟨fun hm => ?_, h.nd⟩
    obtain ⟨q, hq, e⟩ := List.mem_map.mp hm
    obtain ⟨_, u, h2, _⟩ := h.ow q hq
    have e' : q.1 = p := e
    rw [e', hp] at h2
    cases h2
  · rcases List.mem_cons.mp hq with rfl | hq
    · exact ⟨hf, o, upd_same, ho⟩
    · obtain ⟨h1, u, h2, h3⟩ := h.ow q hq
      exact ⟨h1, u, by rw [upd_ne (ne_of_none h2 hp)]; exact h2, h3⟩
theorem HoldO.freeze {F : Hp} {O : Own} {H : Hp} {p : Addr} {od : OD} (h : HoldO F ((p, od) :: O) H) : ∃ o, H p = some o ∧ od.ok F o ∧ Gw F (upd F p o) ∧ HoldO (upd F p o) O H := by
  obtain ⟨hf, o, hp, ho⟩ := h.ow (p, od) List.mem_cons_self
  have hn := List.nodup_cons.mp h.nd
  refine ⟨o, hp, ho, Gw.new hf, ⟨fun a u q => ?_, hn.2, fun q hq => ?_⟩⟩
  · by_cases ha : a = p
    · subst ha; rw [upd_same] at q; rw [← q]; exact hp
    · rw [upd_ne ha] at q; exact h.ex a u q
  · obtain ⟨h1, u, h2, h3⟩ := h.ow q (List.mem_cons_of_mem _ hq)
    have hne : q.1 ≠ p := fun e => hn.1 (List.mem_map.mpr ⟨q, hq, e⟩)
    exact ⟨by rw [upd_ne hne]; exact h1, u, h2, q.2.mono (Gw.new hf) h3⟩
theorem HoldO.drop {F : Hp} {O : Own} {H : Hp} {c : Addr × OD} (h : HoldO F (c :: O) H) : HoldO F O H :=
  ⟨h.ex, (List.nodup_cons.mp h.nd).2, fun q hq => h.ow q (List.mem_cons_of_mem _ hq)⟩
theorem HoldO.at {F : Hp} {O : Own} {H : Hp} {p : Addr} {od : OD} (h : HoldO F O H) {k : Nat} (hk : O[k]? = some (p, od)) : F p = none ∧ ∃ o, H p = some o ∧ od.ok F o := h.ow (p, od) (List.mem_of_getElem? hk)
theorem HoldO.write {F : Hp} {O : Own} {H : Hp} {p : Addr} {od od' : OD} {o' : HO} (h : HoldO F O H) {k : Nat} (hk : O[k]? = some (p, od)) (ho : od'.ok F o') : HoldO F (O.set k (p, od')) (upd H p o') := by
  obtain ⟨hf, o, hp, _⟩ := h.at hk
  obtain ⟨hlt, hge⟩ := List.getElem?_eq_some_iff.mp hk
  have em : (O.set k (p, od')).map (·.1) = O.map (·.1) := by
    rw [List.map_set]
    refine List.ext_getElem? fun i => ?_
    by_cases hi : k = i
    · subst hi
      rw [List.getElem?_set_self (by rw [List.length_map]; exact hlt), List.getElem?_map, hk]
      rfl
    · rw [List.getElem?_set_ne hi]
  refine ⟨fun a u q => ?_, by rw [em]; exact h.nd, fun q hq => ?_⟩
  · rw [upd_ne (ne_of_none q hf)]; exact h.ex a u q
  · obtain ⟨i, hi, e⟩ := List.mem_iff_getElem.mp hq
    rw [List.length_set] at hi
    rw [List.getElem_set] at e
    by_cases hik : k = i
    · rw [if_pos hik] at e
      subst e
      exact ⟨hf, o', upd_same, ho⟩
    · rw [if_neg hik] at e
      subst e
      obtain ⟨h1, u, h2, h3⟩ := h.ow O[i] (List.getElem_mem hi)
      have hne : (O[i]).1 ≠ p := fun e => by
        have nd := h.nd
        have a1 : (O.map (·.1))[i]'(by rw [List.length_map]; exact hi) = p := by rw [List.getElem_map]; exact e
        have a2 : (O.map (·.1))[k]'(by rw [List.length_map]; exact hlt) = p := by rw [List.getElem_map, hge]
        exact hik ((List.getElem_inj nd).mp (a2.trans a1.symm))
      exact ⟨h1, u, by rw [upd_ne hne]; exact h2, h3⟩
theorem Hold.mono {F F' : Hp} {Γ : Fr} {O O' : Own} {σ : L2.St} {H H' : Hp} (h : Hold F Γ O σ H) (e : Gw F F') (k : HoldO F' O' H') : Hold F' Γ O' σ H' := ⟨h.fr.mono e, k⟩
theorem Hold.set {F : Hp} {Γ : Fr} {O : Own} {σ : L2.St} {H : Hp} {d : D} {v : V} (i : Nat) (h : Hold F Γ O σ H) (q : d.ok F v) : Hold F (Γ.set i (some d)) O (σ.set i (some v)) H := ⟨h.fr.set i q, h.ho⟩
end Kn
namespace Kn
open PySem PySem.Spec L2
structure Cfg where
  P : Program
  w : World
  K : PySem.W.Frag
  mg : Str → Option Value
  base : Heap
structure Sc where
  k : Nat
  N : List Str
  sc : Scope
  top : Bool := true
  calm : Bool := true
structure InC (G : Cfg) (C : Sc) (X : Cx) : Prop where
  p : X.prog = G.P
  w : X.w = G.w
  K : X.K = G.K
  mg : X.mg = G.mg
  base : X.base = G.base
  n : X.N = C.N
  sc : X.env.scope = C.sc
  calm : C.calm = true → X.calm = true
  un : X.A.units + 16 * C.k + 200 < cLine
  dp : X.A.depth + 3 * C.k + 5 < recursionLimit
  hdl : C.calm = true → X.A.handled = none
  st : C.top = true → X.stack = X.env :: X.outer ∧ X.env.frame = some X.env.locals
  po : PassesOwn (model X.prog X.w) X.A X.env X.xe
  fn : C.top = true → ∀ x, X.fn x = true
class Calm (C : Sc) : Prop where
  c : C.calm = true
theorem InC.room {G : Cfg} {C : Sc} [Calm C] {X : Cx} (c : InC G C X) : Room C.k X.A := ⟨c.hdl Calm.c, c.dp, c.un⟩
theorem InC.units {G : Cfg} {C : Sc} {X : Cx} (c : InC G C X) : X.A.units + 64 < cLine := by have := c.un; omega
theorem InC.cm {G : Cfg} {C : Sc} [Calm C] {X : Cx} (c : InC G C X) : X.calm = true := c.calm Calm.c
def WE (X : Cx) (e : Expr) : TE := fun σ H Q => ∀ (pins : List (Addr × Obj)) (s : Shared), Inv X pins σ H s → wpAny (model X.prog X.w) X.A (eval e X.env) (EP X pins σ Q) X.xe s
def WT (X : Cx) (e : Expr) : TT := fun σ H Q => ∀ (pins : List (Addr × Obj)) (s : Shared), Inv X pins σ H s → wpAny (model X.prog X.w) X.A (isTrue e X.env (eval e X.env)) (TP X pins σ Q) X.xe s
def WW (X : Cx) (e : Expr) : TT := fun σ H Q => ∀ (whole : Sem Value) (pins : List (Addr × Obj)) (s : Shared), Inv X pins σ H s → wpAny (model X.prog X.w) X.A (isTrue e X.env whole) (TP X pins σ Q) X.xe s
def WA (X : Cx) (es : List Expr) : TA := fun σ H Q => ∀ (pos : Pos) (pins : List (Addr × Obj)) (s : Shared), Inv X pins σ H s → wpAny (model X.prog X.w) X.A (spliced (backTo pos (starEach es X.env))) (AP X pins σ Q) X.xe s
theorem pe_can {X : Cx} {e : Expr} : PE X e (WE X e) := ⟨fun pins s _ _ _ I h => h pins s I⟩
theorem pt_can {X : Cx} {e : Expr} : PT X e (WT X e) := ⟨fun pins s _ _ _ I h => h pins s I⟩
theorem pw_can {X : Cx} {e : Expr} : PW X e (WW X e) := ⟨fun wh pins s _ _ _ I h => h wh pins s I⟩
theorem pa_can {X : Cx} {es : List Expr} : PA X es (WA X es) := ⟨fun pos pins s _ _ _ I h => h pos pins s I⟩
theorem we_of {X : Cx} {e : Expr} {t : TE} {σ : L2.St} {H : Hp} {Q : VK} (h : PE X e t) (q : t σ H Q) : WE X e σ H Q := fun pins s I => h.run pins s σ H Q I q
theorem wt_of {X : Cx} {e : Expr} {t : TT} {σ : L2.St} {H : Hp} {Q : Bool → Hp → Prop} (h : PT X e t) (q : t σ H Q) : WT X e σ H Q := fun pins s I => h.run pins s σ H Q I q
theorem ww_of {X : Cx} {e : Expr} {t : TT} {σ : L2.St} {H : Hp} {Q : Bool → Hp → Prop} (h : PW X e t) (q : t σ H Q) : WW X e σ H Q := fun wh pins s I => h.run wh pins s σ H Q I q
theorem wa_of {X : Cx} {es : List Expr} {t : TA} {σ : L2.St} {H : Hp} {Q : List V → Hp → Prop} (h : PA X es t) (q : t σ H Q) : WA X es σ H Q := fun pos pins s I => h.run pos pins s σ H Q I q
structure E (G : Cfg) (C : Sc) (e : Expr) (Γ : Fr) (O : Own) (d : D) : Prop where
  run : ∀ X, InC G C X → ∀ (F : Hp) (σ : L2.St) (H : Hp), Hold F Γ O σ H → ∀ Q : VK, (∀ F' H' v, Gw F F' → Hold F' Γ O σ H' → d.ok F' v → Q v H') → WE X e σ H Q
structure EN (G : Cfg) (C : Sc) (e : Expr) (Γ : Fr) (O : Own) (od : OD) : Prop where
  run : ∀ X, InC G C X → ∀ (F : Hp) (σ : L2.St) (H : Hp), Hold F Γ O σ H → ∀ Q : VK, (∀ F' H' p, Gw F F' → Hold F' Γ ((p, od) :: O) σ H' → Q (.ref p) H') → WE X e σ H Q
structure T (G : Cfg) (C : Sc) (e : Expr) (Γ : Fr) (O : Own) (b : Bool) : Prop where
  run : ∀ X, InC G C X → ∀ (F : Hp) (σ : L2.St) (H : Hp), Hold F Γ O σ H → ∀ Q : Bool → Hp → Prop, (∀ F' H', Gw F F' → Hold F' Γ O σ H' → Q b H') → WT X e σ H Q
structure TW (G : Cfg) (C : Sc) (e : Expr) (Γ : Fr) (O : Own) (b : Bool) : Prop where
  run : ∀ X, InC G C X → ∀ (F : Hp) (σ : L2.St) (H : Hp), Hold F Γ O σ H → ∀ Q : Bool → Hp → Prop, (∀ F' H', Gw F F' → Hold F' Γ O σ H' → Q b H') → WW X e σ H Q
structure A (G : Cfg) (C : Sc) (es : List Expr) (Γ : Fr) (O : Own) (ds : List D) : Prop where
  st : ∀ env, (starEach es env).any (·.1) = false
  run : ∀ X, InC G C X → ∀ (F : Hp) (σ : L2.St) (H : Hp), Hold F Γ O σ H → ∀ Q : List V → Hp → Prop, (∀ F' H' vs, Gw F F' → Hold F' Γ O σ H' → AllD F' ds vs → Q vs H') → WA X es σ H Q
def R2D (r : R2) (O : Own) (da db d : D) : Prop := ∀ F H v u, HoldO F O H → da.ok F v → db.ok F u → ∀ Q : VK, (∀ F' H' z, Gw F F' → HoldO F' O H' → d.ok F' z → Q z H') → r v u H Q
def RCD (r : List V → Hp → VK → Prop) (O : Own) (ds : List D) (d : D) : Prop := ∀ F H vs, HoldO F O H → AllD F ds vs → ∀ Q : VK, (∀ F' H' z, Gw F F' → HoldO F' O H' → d.ok F' z → Q z H') → r vs H Q
def RCN (r : List V → Hp → VK → Prop) (O : Own) (ds : List D) (od : OD) : Prop := ∀ F H vs, HoldO F O H → AllD F ds vs → ∀ Q : VK, (∀ F' H' p, Gw F F' → HoldO F' ((p, od) :: O) H' → Q (.ref p) H') → r vs H Q
section
variable {G : Cfg} {C : Sc} {Γ : Fr} {O : Own} {e a b c : Expr} {es : List Expr} {d da db dc : D} {ds : List D} {pos p1 p2 : Pos} {x : Str}
structure Var (C : Sc) (i : Nat) (x : Str) : Prop where
  n : C.N[i]? = some x
  v : Vis C.sc x
  d : (x == ("__debug__" : Str)) = false
  c : (x == ("__classdict__" : Str)) = false
def varB (C : Sc) (i : Nat) (x : Str) : Bool := decide (C.N[i]? = some x) && (match C.sc.names.lookup x with
  | some .local => true
  | some .cell => true
  | some .free => true
  | _ => false) && !(x == ("__debug__" : Str)) && !(x == ("__classdict__" : Str))
theorem var_of {C : Sc} {i : Nat} {x : Str} (h : varB C i x = true) : Var C i x := by
  unfold varB at h
  simp only [Bool.and_eq_true, decide_eq_true_eq, Bool.not_eq_true'] at h
  obtain ⟨⟨⟨h1, h2⟩, h3⟩, h4⟩ := h
  refine ⟨h1, ?_, h3, h4⟩
  unfold Vis
  revert h2
  cases C.sc.names.lookup x with
  | none => intro h; cases h
  | some k => cases k <;> intro h <;> first | exact .inl rfl | exact .inr (.inl rfl) | exact .inr (.inr rfl) | cases h
theorem e_var {i : Nat} (v : Var C i x) (hd : Γ[i]? = some (some d)) : E G C (.Name x pos) Γ O d := .mk fun X c F σ H h Q q => by
  obtain ⟨u, h1, h2⟩ := h.fr.2 i d hd
  exact we_of (pe_var (by rw [c.n]; exact v.n) (by rw [c.sc]; exact v.v) v.d v.c) ⟨u, h1, q F H u (Gw.refl F) h h2⟩
theorem e_const {v : V} (h : ∀ X, PE X e (tC v)) : E G C e Γ O (dV v) := .mk fun X c F σ H hh Q q => we_of (h X) (q F H v (Gw.refl F) hh rfl)
theorem e_int {i : Int} {j : Nat} : E G C (.Constant (.int i) j pos) Γ O (dI i) := e_const fun _ => pe_int
theorem e_bool {i : Bool} {j : Nat} : E G C (.Constant (.bool i) j pos) Γ O (dB i) := e_const fun _ => pe_bl
theorem e_none {j : Nat} : E G C (.Constant .none j pos) Γ O dN := e_const fun _ => pe_non
theorem e_str {i : Str} {j : Nat} (ho : okSb i = true := by decide +kernel) : E G C (.Constant (.str i) j pos) Γ O (dS i) := .mk fun X c F σ H hh Q q => we_of pe_str (q F H _ (Gw.refl F) hh ⟨rfl, okS_of ho⟩)
def Glo (C : Sc) (x : Str) : Prop := C.sc.names.lookup x = some .globalImplicit ∧ (x == ("__debug__" : Str)) = false ∧ x ≠ "__name__"
def gloB (C : Sc) (x : Str) : Bool := (match C.sc.names.lookup x with
  | some .globalImplicit => true
  | _ => false) && !(x == ("__debug__" : Str)) && !(x == ("__name__" : Str))
theorem glo_of {C : Sc} {x : Str} (h : gloB C x = true) : Glo C x := by
  unfold gloB at h
  simp only [Bool.and_eq_true, Bool.not_eq_true'] at h
  obtain ⟨⟨h1, h2⟩, h3⟩ := h
  refine ⟨?_, h2, fun e => by rw [e] at h3; simp at h3⟩
  revert h1
  cases C.sc.names.lookup x with
  | none => intro h; cases h
  | some k => cases k <;> intro h <;> first | rfl | cases h
theorem InC.gl {X : Cx} (c : InC G C X) (g : Glo C x) : Gl X x := by
  show X.env.scope.names.lookup x = _
  rw [c.sc]; exact g.1
theorem e_glob {v : V} {u : Value} (g : Glo C x) (hm : G.mg x = some u) (r : RelV v u) : E G C (.Name x pos) Γ O (dV v) := .mk fun X c F σ H hh Q q =>
  we_of (pe_glob (c.gl g) (by rw [c.mg]; exact hm) r g.2.1) (q F H v (Gw.refl F) hh rfl)
theorem e_as {d' : D} (h : E G C e Γ O d) (k : ∀ F v, d.ok F v → d'.ok F v) : E G C e Γ O d' := .mk fun X c F σ H hh Q q => h.run X c F σ H hh Q fun F' H' v e1 h1 d1 => q F' H' v e1 h1 (k F' v d1)
theorem e_eq {d' : D} (h : E G C e Γ O d) (k : d = d') : E G C e Γ O d' := k ▸ h
theorem freeze_lst {F : Hp} {p : Addr} {ds : List D} {H : Hp} (h : HoldO F ((p, oLst ds) :: O) H) : ∃ F', Gw F F' ∧ HoldO F' O H ∧ (dLst G.K ds).ok F' (.ref p) := by
  obtain ⟨o, _, ⟨vs, rfl, ha⟩, e, hh⟩ := h.freeze
  exact ⟨_, e, hh, p, vs, rfl, .inl (Rd.of upd_same), AllD.mono e ha⟩
theorem en_lst (h : EN G C e Γ O (oLst ds)) : E G C e Γ O (dLst G.K ds) := .mk fun X c F σ H hh Q q => h.run X c F σ H hh Q fun F' H' p e1 h1 => by
  obtain ⟨F2, e2, h2, d2⟩ := freeze_lst (G := G) h1.ho
  exact q F2 H' _ (e1.trans e2) ⟨h1.fr.mono e2, h2⟩ d2
theorem a_nil : A G C [] Γ O [] := ⟨fun _ => rfl, fun X c F σ H hh Q q => wa_of pa_nil (q F H [] (Gw.refl F) hh trivial)⟩
theorem a_cons (h : E G C e Γ O d) (hr : A G C es Γ O ds) (hs : ∀ env, starEach (e :: es) env = (false, eval e env) :: starEach es env) : A G C (e :: es) Γ O (d :: ds) :=
  ⟨fun env => by rw [hs, List.any_cons, hr.st]; rfl, fun X c F σ H hh Q q => by
    refine wa_of (pa_cons pe_can pa_can (hs X.env)) (h.run X c F σ H hh _ fun F1 H1 v e1 h1 d1 => ?_)
    exact hr.run X c F1 σ H1 h1 _ fun F2 H2 vs e2 h2 d2 => q F2 H2 _ (e1.trans e2) h2 ⟨d.mono e2 d1, d2⟩⟩
theorem A.bt (h : A G C es Γ O ds) (pos : Pos) (env : Env) : (backTo pos (starEach es env)).any (·.1) = false := by
  unfold backTo
  rw [List.any_map]
  exact h.st env
theorem e_tup {k : Nat} (h : A G C es Γ O ds) (hl : ds.length ≤ 100000) : E G C (.Tuple es k pos) Γ O (dTup G.K ds) := .mk fun X c F σ H hh Q q => by
  refine we_of (pe_tup pa_can) (h.run X c F σ H hh _ fun F1 H1 vs e1 h1 d1 => ⟨?_, fun p hp => ?_⟩)
  · rw [AllD.length d1]; exact Nat.le_trans hl (by decide)
  · obtain ⟨h2, e2⟩ := h1.ho.laid (o := .tup vs) hp
    exact q _ _ _ (e1.trans e2) (h1.mono e2 h2) ⟨p, vs, rfl, .inl (.inl upd_same), AllD.mono e2 d1⟩
theorem en_list (h : A G C es Γ O ds) (hl : ds.length ≤ 100000) : EN G C (.List es pos) Γ O (oLst ds) := .mk fun X c F σ H hh Q q => by
  refine we_of (pe_lst pa_can) (h.run X c F σ H hh _ fun F1 H1 vs e1 h1 d1 => ⟨?_, fun p hp => ?_⟩)
  · rw [AllD.length d1]; exact Nat.le_trans hl (by decide)
  · exact q F1 _ p e1 ⟨h1.fr, h1.ho.own hp ⟨vs, rfl, d1⟩⟩
theorem e_op {op : Operator} {r : R2} (ho : ∀ X, InC G C X → OpR X (binaryOp op) r) (hr : R2D r O da db d) (ha : E G C a Γ O da) (hb : E G C b Γ O db) : E G C (.BinOp a op b pos) Γ O d := .mk fun X c F σ H hh Q q => by
  refine we_of (pe_op (ho X c) pe_can pe_can) (ha.run X c F σ H hh _ fun F1 H1 v e1 h1 d1 => ?_)
  refine hb.run X c F1 σ H1 h1 _ fun F2 H2 u e2 h2 d2 => ?_
  exact hr F2 H2 v u h2.ho (da.mono e2 d1) d2 _ fun F3 H3 z e3 h3 d3 => q F3 H3 z ((e1.trans e2).trans e3) (h2.mono e3 h3) d3
theorem e_un {op : UnaryOp} {r : V → Hp → VK → Prop} (ho : ∀ X, InC G C X → UnR X (unaryOp op) r) (hr : ∀ F H v, HoldO F O H → da.ok F v → ∀ Q : VK, (∀ z, d.ok F z → Q z H) → r v H Q) (ha : E G C a Γ O da) : E G C (.UnaryOp op a pos) Γ O d := .mk fun X c F σ H hh Q q => by
  refine we_of (pe_un (ho X c) pe_can) (ha.run X c F σ H hh _ fun F1 H1 v e1 h1 d1 => ?_)
  exact hr F1 H1 v h1.ho d1 _ fun z dz => q F1 H1 z e1 h1 dz
theorem r2_I0 {g : Int → Int → V} {i j : Int} : R2D (rI0 g) O (dI i) (dI j) (dV (g i j)) := fun F H v u hh h1 h2 Q q => ⟨i, j, h1, h2, q F H _ (Gw.refl F) hh rfl⟩
theorem r2_I {P : Int → Int → Prop} {g : Int → Int → V} {i j : Int} (hp : P i j) : R2D (rI P g) O (dI i) (dI j) (dV (g i j)) := fun F H v u hh h1 h2 Q q => ⟨i, j, h1, h2, hp, q F H _ (Gw.refl F) hh rfl⟩
theorem e_add {i j : Int} (ha : E G C a Γ O (dI i)) (hb : E G C b Γ O (dI j)) : E G C (.BinOp a .Add b pos) Γ O (dI (i + j)) := e_op (fun _ _ => op_add) r2_I0 ha hb
theorem e_sub {i j : Int} (ha : E G C a Γ O (dI i)) (hb : E G C b Γ O (dI j)) : E G C (.BinOp a .Sub b pos) Γ O (dI (i - j)) := e_op (fun _ _ => op_sub) r2_I0 ha hb
theorem e_mul {i j : Int} (ha : E G C a Γ O (dI i)) (hb : E G C b Γ O (dI j)) (hm : CMul i j) : E G C (.BinOp a .Mult b pos) Γ O (dI (i * j)) := e_op (fun _ _ => op_mul) (r2_I hm) ha hb
theorem e_mod {i j : Int} (ha : E G C a Γ O (dI i)) (hb : E G C b Γ O (dI j)) (hm : 0 < j) : E G C (.BinOp a .Mod b pos) Γ O (dI (i % j)) := e_op (fun _ _ => op_mod) (r2_I hm) ha hb
theorem e_div {i j : Int} (ha : E G C a Γ O (dI i)) (hb : E G C b Γ O (dI j)) (hm : CDiv i j) : E G C (.BinOp a .FloorDiv b pos) Γ O (dI (i / j)) := e_op (fun _ _ => op_fdiv) (r2_I hm) ha hb
theorem e_pow {i j : Int} (ha : E G C a Γ O (dI i)) (hb : E G C b Γ O (dI j)) (hm : CPow i j) : E G C (.BinOp a .Pow b pos) Γ O (dI (i ^ j.toNat)) := e_op (fun _ _ => op_pow) (r2_I hm) ha hb
theorem e_neg {i : Int} (ha : E G C a Γ O (dI i)) : E G C (.UnaryOp .USub a pos) Γ O (dI (-i)) := e_un (fun _ _ => un_neg) (fun F H v _ h Q q => ⟨i, h, q _ rfl⟩) ha
theorem e_addS {i j : Str} (ha : E G C a Γ O (dS i)) (hb : E G C b Γ O (dS j)) (hl : i.length + j.length ≤ sizeLine) : E G C (.BinOp a .Add b pos) Γ O (dS (i ++ j)) :=
  e_op (da := dS i) (db := dS j) (fun _ _ => op_add_str) (fun F H v u hh h1 h2 Q q => ⟨i, j, h1.1, h2.1, hl, q F H _ (Gw.refl F) hh ⟨rfl, okS_app h1.2 h2.2 hl⟩⟩) ha hb
structure CmpR (G : Cfg) (C : Sc) (op : CmpOp) (O : Own) (da db : D) (k : Bool) : Prop where
  ex : ∀ X, InC G C X → ∃ r, OpR X (compareOp op) r ∧ R2D r O da db (dB k)
theorem cmp_of {op : CmpOp} {r : R2} {k : Bool} (ho : ∀ X, InC G C X → OpR X (compareOp op) r) (hr : R2D r O da db (dB k)) : CmpR G C op O da db k := ⟨fun X c => ⟨r, ho X c, hr⟩⟩
theorem e_cmp {op : CmpOp} {k : Bool} (r : CmpR G C op O da db k) (ha : E G C a Γ O da) (hb : E G C b Γ O db) (hm : behindInMarks op b = false) : E G C (.Compare a [op] [b] pos) Γ O (dB k) := .mk fun X c F σ H hh Q q => by
  obtain ⟨r, ho, hr⟩ := r.ex X c
  refine we_of (pe_cmpR ho pe_can pe_can hm) (ha.run X c F σ H hh _ fun F1 H1 v e1 h1 d1 => ?_)
  refine hb.run X c F1 σ H1 h1 _ fun F2 H2 u e2 h2 d2 => ?_
  exact hr F2 H2 v u h2.ho (da.mono e2 d1) d2 _ fun F3 H3 z e3 h3 d3 => q F3 H3 z ((e1.trans e2).trans e3) (h2.mono e3 h3) d3
theorem t_cmp {op : CmpOp} {k : Bool} (r : CmpR G C op O da db k) (ha : E G C a Γ O da) (hb : E G C b Γ O db) (hm : behindInMarks op b = false) : T G C (.Compare a [op] [b] pos) Γ O k := .mk fun X c F σ H hh Q q => by
  obtain ⟨r, ho, hr⟩ := r.ex X c
  refine wt_of (pt_cmpR ho pe_can pe_can hm) (ha.run X c F σ H hh _ fun F1 H1 v e1 h1 d1 => ?_)
  refine hb.run X c F1 σ H1 h1 _ fun F2 H2 u e2 h2 d2 => ?_
  exact hr F2 H2 v u h2.ho (da.mono e2 d1) d2 _ fun F3 H3 z e3 h3 d3 => ⟨k, d3, q F3 H3 ((e1.trans e2).trans e3) (h2.mono e3 h3)⟩
theorem e_chain {op op' : CmpOp} {k k' : Bool} (r : CmpR G C op O da db k) (r' : k = true → CmpR G C op' O db dc k') (ha : E G C a Γ O da) (hb : E G C b Γ O db) (hc : k = true → E G C c Γ O dc)
    (hx : ∀ X {r1 r2 : R2} {ta tb tc : TE}, OpR X (compareOp op) r1 → OpR X (compareOp op') r2 → PE X a ta → PE X b tb → PE X c tc → PE X (.Compare a [op, op'] [b, c] pos) (tChain r1 r2 ta tb tc)) : E G C (.Compare a [op, op'] [b, c] pos) Γ O (dB (k && k')) := .mk fun X c0 F σ H hh Q q => by
  obtain ⟨r, ho, hr⟩ := r.ex X c0
  cases k with
  | false =>
    refine we_of (hx X (r2 := fun _ _ _ _ => False) ho (fun _ _ _ _ _ _ _ _ _ _ _ _ h => h.elim) pe_can pe_can pe_can) (ha.run X c0 F σ H hh _ fun F1 H1 v e1 h1 d1 => ?_)
    refine hb.run X c0 F1 σ H1 h1 _ fun F2 H2 u e2 h2 d2 => ?_
    exact hr F2 H2 v u h2.ho (da.mono e2 d1) d2 _ fun F3 H3 z e3 h3 d3 => ⟨false, d3, iteF (q F3 H3 _ ((e1.trans e2).trans e3) (h2.mono e3 h3) rfl)⟩
  | true =>
    obtain ⟨r2, ho2, hr2⟩ := (r' rfl).ex X c0
    refine we_of (hx X ho ho2 pe_can pe_can pe_can) (ha.run X c0 F σ H hh _ fun F1 H1 v e1 h1 d1 => ?_)
    refine hb.run X c0 F1 σ H1 h1 _ fun F2 H2 u e2 h2 d2 => ?_
    exact hr F2 H2 v u h2.ho (da.mono e2 d1) d2 _ fun F3 H3 z e3 h3 d3 => ⟨true, d3, iteT ((hc rfl).run X c0 F3 σ H3 (h2.mono e3 h3) _ fun F4 H4 y e4 h4 d4 =>
      hr2 F4 H4 u y h4.ho (db.mono (e3.trans e4) d2) d4 _ fun F5 H5 z e5 h5 d5 => q F5 H5 z ((((e1.trans e2).trans e3).trans e4).trans e5) (h4.mono e5 h5) d5)⟩
theorem t_chain {op op' : CmpOp} {k k' : Bool} (r : CmpR G C op O da db k) (r' : k = true → CmpR G C op' O db dc k') (ha : E G C a Γ O da) (hb : E G C b Γ O db) (hc : k = true → E G C c Γ O dc)
    (hx : ∀ X {r1 r2 : R2} {ta tb tc : TE}, OpR X (compareOp op) r1 → OpR X (compareOp op') r2 → PE X a ta → PE X b tb → PE X c tc → PT X (.Compare a [op, op'] [b, c] pos) (tTest (tChain r1 r2 ta tb tc))) : T G C (.Compare a [op, op'] [b, c] pos) Γ O (k && k') := .mk fun X c0 F σ H hh Q q => by
  obtain ⟨r, ho, hr⟩ := r.ex X c0
  cases k with
  | false =>
    refine wt_of (hx X (r2 := fun _ _ _ _ => False) ho (fun _ _ _ _ _ _ _ _ _ _ _ _ h => h.elim) pe_can pe_can pe_can) (ha.run X c0 F σ H hh _ fun F1 H1 v e1 h1 d1 => ?_)
    refine hb.run X c0 F1 σ H1 h1 _ fun F2 H2 u e2 h2 d2 => ?_
    exact hr F2 H2 v u h2.ho (da.mono e2 d1) d2 _ fun F3 H3 z e3 h3 d3 => ⟨false, d3, iteF ⟨false, rfl, q F3 H3 ((e1.trans e2).trans e3) (h2.mono e3 h3)⟩⟩
  | true =>
    obtain ⟨r2, ho2, hr2⟩ := (r' rfl).ex X c0
    refine wt_of (hx X ho ho2 pe_can pe_can pe_can) (ha.run X c0 F σ H hh _ fun F1 H1 v e1 h1 d1 => ?_)
    refine hb.run X c0 F1 σ H1 h1 _ fun F2 H2 u e2 h2 d2 => ?_
    exact hr F2 H2 v u h2.ho (da.mono e2 d1) d2 _ fun F3 H3 z e3 h3 d3 => ⟨true, d3, iteT ((hc rfl).run X c0 F3 σ H3 (h2.mono e3 h3) _ fun F4 H4 y e4 h4 d4 =>
      hr2 F4 H4 u y h4.ho (db.mono (e3.trans e4) d2) d4 _ fun F5 H5 z e5 h5 d5 => ⟨k', d5, q F5 H5 ((((e1.trans e2).trans e3).trans e4).trans e5) (h4.mono e5 h5)⟩)⟩
theorem c_lt {i j : Int} : CmpR G C .Lt O (dI i) (dI j) (decide (i < j)) := cmp_of (fun _ _ => op_lt) r2_I0
theorem c_le {i j : Int} : CmpR G C .LtE O (dI i) (dI j) (decide (i ≤ j)) := cmp_of (fun _ _ => op_le) r2_I0
theorem c_gt {i j : Int} : CmpR G C .Gt O (dI i) (dI j) (decide (j < i)) := cmp_of (fun _ _ => op_gt) r2_I0
theorem c_eqV {v u : V} (h : scal v u = true) : CmpR G C .Eq O (dV v) (dV u) (decide (v = u)) := cmp_of (fun _ _ => op_eq) fun F H x y hh h1 h2 Q q => by
  cases h1; cases h2
  exact ⟨h, q F H _ (Gw.refl F) hh rfl⟩
theorem c_neV {v u : V} (h : scal v u = true) : CmpR G C .NotEq O (dV v) (dV u) (!decide (v = u)) := cmp_of (fun _ _ => op_ne) fun F H x y hh h1 h2 Q q => by
  cases h1; cases h2
  exact ⟨h, q F H _ (Gw.refl F) hh rfl⟩
theorem dec_iff {p q : Prop} [Decidable p] [Decidable q] (h : p ↔ q) : decide p = decide q := by
  by_cases hp : p
  · rw [decide_eq_true hp, decide_eq_true (h.mp hp)]
  · rw [decide_eq_false hp, decide_eq_false fun z => hp (h.mpr z)]
theorem c_is {op : CmpOp} {k k' : Bool} (h : CmpR G C op O da db k) (e : k = k') : CmpR G C op O da db k' := e ▸ h
theorem c_weak {op : CmpOp} {k : Bool} {da' db' : D} (h : CmpR G C op O da db k) (ha : ∀ F v, da'.ok F v → da.ok F v) (hb : ∀ F v, db'.ok F v → db.ok F v) : CmpR G C op O da' db' k := ⟨fun X c => by
  obtain ⟨r, ho, hr⟩ := h.ex X c
  exact ⟨r, ho, fun F H v u hh h1 h2 Q q => hr F H v u hh (ha F v h1) (hb F u h2) Q q⟩⟩
theorem c_eqI {i j : Int} : CmpR G C .Eq O (dI i) (dI j) (decide (i = j)) := c_is (c_eqV rfl) (dec_iff ⟨fun h => V.int.inj h, fun h => by rw [h]⟩)
theorem c_neI {i j : Int} : CmpR G C .NotEq O (dI i) (dI j) (!decide (i = j)) := c_is (c_neV rfl) (by rw [dec_iff ⟨fun h => V.int.inj h, fun h => by rw [h]⟩])
theorem c_eqS {i j : Str} : CmpR G C .Eq O (dS i) (dS j) (decide (i = j)) := c_weak (da := dV (.str i)) (db := dV (.str j)) (c_is (c_eqV rfl) (dec_iff ⟨fun h => V.str.inj h, fun h => by rw [h]⟩)) (fun _ _ h => h.1) (fun _ _ h => h.1)
theorem c_neS {i j : Str} : CmpR G C .NotEq O (dS i) (dS j) (!decide (i = j)) := c_weak (da := dV (.str i)) (db := dV (.str j)) (c_is (c_neV rfl) (by rw [dec_iff ⟨fun h => V.str.inj h, fun h => by rw [h]⟩])) (fun _ _ h => h.1) (fun _ _ h => h.1)
theorem t_val {k : Bool} (h : E G C e Γ O (dB k)) (he : ∀ (env : Env) whole, isTrue e env whole = (do let v ← whole; standAt e.pos; holding [v] (truthy v))) : T G C e Γ O k := .mk fun X c F σ H hh Q q =>
  wt_of (pt_val pe_can (he X.env)) (h.run X c F σ H hh _ fun F1 H1 v e1 h1 d1 => ⟨k, d1, q F1 H1 e1 h1⟩)
theorem t_not {k : Bool} (h : T G C a Γ O k) : T G C (.UnaryOp .Not a pos) Γ O (!k) := .mk fun X c F σ H hh Q q => wt_of (pt_not pt_can) (h.run X c F σ H hh _ fun F1 H1 e1 h1 => q F1 H1 e1 h1)
theorem t_w {k : Bool} (h : TW G C e Γ O k) : T G C e Γ O k := .mk fun X c F σ H hh Q q => wt_of (PW.pt pw_can) (h.run X c F σ H hh Q q)
theorem w_and1 {k : Bool} (h : T G C a Γ O k) : TW G C (.BoolOp .And [a] pos) Γ O k := .mk fun X c F σ H hh Q q => ww_of (pw_and1 pt_can) (h.run X c F σ H hh Q q)
theorem w_or1 {k : Bool} (h : T G C a Γ O k) : TW G C (.BoolOp .Or [a] pos) Γ O k := .mk fun X c F σ H hh Q q => ww_of (pw_or1 pt_can) (h.run X c F σ H hh Q q)
theorem w_and {k k' : Bool} (h : T G C a Γ O k) (h2 : k = true → TW G C (.BoolOp .And (b :: es) pos) Γ O k') : TW G C (.BoolOp .And (a :: b :: es) pos) Γ O (k && k') := .mk fun X c F σ H hh Q q =>
  ww_of (pw_and pt_can pw_can) (h.run X c F σ H hh _ fun F1 H1 e1 h1 => by
    cases k with
    | true => exact iteT ((h2 rfl).run X c F1 σ H1 h1 _ fun F2 H2 e2 h3 => q F2 H2 (e1.trans e2) h3)
    | false => exact iteF (q F1 H1 e1 h1))
theorem w_or {k k' : Bool} (h : T G C a Γ O k) (h2 : k = false → TW G C (.BoolOp .Or (b :: es) pos) Γ O k') : TW G C (.BoolOp .Or (a :: b :: es) pos) Γ O (k || k') := .mk fun X c F σ H hh Q q =>
  ww_of (pw_or pt_can pw_can) (h.run X c F σ H hh _ fun F1 H1 e1 h1 => by
    cases k with
    | false => exact iteF ((h2 rfl).run X c F1 σ H1 h1 _ fun F2 H2 e2 h3 => q F2 H2 (e1.trans e2) h3)
    | true => exact iteT (q F1 H1 e1 h1))
theorem e_bool1 {op : BoolOp} {d : D} (h : E G C a Γ O d) : E G C (.BoolOp op [a] pos) Γ O d := .mk fun X c F σ H hh Q q => we_of (pe_one pe_can) (h.run X c F σ H hh Q q)
theorem e_and {k k' : Bool} (h : E G C a Γ O (dB k)) (h2 : k = true → E G C (.BoolOp .And (b :: es) pos) Γ O (dB k')) : E G C (.BoolOp .And (a :: b :: es) pos) Γ O (dB (k && k')) := .mk fun X c F σ H hh Q q =>
  we_of (pe_and pe_can pe_can) (h.run X c F σ H hh _ fun F1 H1 v e1 h1 d1 => ⟨k, d1, by
    cases k with
    | true => exact iteT ((h2 rfl).run X c F1 σ H1 h1 _ fun F2 H2 u e2 h3 d3 => q F2 H2 u (e1.trans e2) h3 d3)
    | false => exact iteF (q F1 H1 _ e1 h1 rfl)⟩)
theorem e_or {k k' : Bool} (h : E G C a Γ O (dB k)) (h2 : k = false → E G C (.BoolOp .Or (b :: es) pos) Γ O (dB k')) : E G C (.BoolOp .Or (a :: b :: es) pos) Γ O (dB (k || k')) := .mk fun X c F σ H hh Q q =>
  we_of (pe_or pe_can pe_can) (h.run X c F σ H hh _ fun F1 H1 v e1 h1 d1 => ⟨k, d1, by
    cases k with
    | false => exact iteF ((h2 rfl).run X c F1 σ H1 h1 _ fun F2 H2 u e2 h3 d3 => q F2 H2 u (e1.trans e2) h3 d3)
    | true => exact iteT (q F1 H1 _ e1 h1 rfl)⟩)
theorem e_not {k : Bool} (h : E G C a Γ O (dB k)) : E G C (.UnaryOp .Not a pos) Γ O (dB (!k)) := .mk fun X c F σ H hh Q q =>
  we_of (pe_not pe_can) (h.run X c F σ H hh _ fun F1 H1 v e1 h1 d1 => ⟨k, d1, q F1 H1 _ e1 h1 rfl⟩)
theorem e_ifx {k : Bool} (h : T G C c Γ O k) (h1 : k = true → E G C a Γ O d) (h2 : k = false → E G C b Γ O d) : E G C (.IfExp c a b pos) Γ O d := .mk fun X c F σ H hh Q q =>
  we_of (pe_ifExp pt_can pe_can pe_can) (h.run X c F σ H hh _ fun F1 H1 e1 h3 => by
    cases k with
    | true => exact iteT ((h1 rfl).run X c F1 σ H1 h3 _ fun F2 H2 u e2 h4 d4 => q F2 H2 u (e1.trans e2) h4 d4)
    | false => exact iteF ((h2 rfl).run X c F1 σ H1 h3 _ fun F2 H2 u e2 h4 d4 => q F2 H2 u (e1.trans e2) h4 d4))
end
end Kn
namespace Kn
open PySem PySem.Spec L2
abbrev Exn := Str × List (Str × V)
inductive Out (S R : Type) where
  | nx (s : S)
  | rt (r : R)
  | ex (x : Exn)
structure SD where
  ok : Hp → L2.St → Hp → Prop
  anti : ∀ {F F' : Hp} {σ : L2.St} {H : Hp}, Gw F F' → ok F' σ H → ok F σ H
structure RK where
  ok : Hp → V → Hp → Prop
  anti : ∀ {F F' : Hp} {v : V} {H : Hp}, Gw F F' → ok F' v H → ok F v H
  xo : Hp → Value → Option Addr → Hp → Prop
  xanti : ∀ {F F' : Hp} {c : Value} {d : Option Addr} {H : Hp}, Gw F F' → xo F' c d H → xo F c d H
abbrev noXo : Hp → Value → Option Addr → Hp → Prop := fun _ _ _ _ => False
abbrev RK.NoX (rk : RK) : Prop := ∀ F c d H, ¬ rk.xo F c d H
structure XD where
  ok : Hp → Value → Option Addr → L2.St → Hp → Prop
  anti : ∀ {F F' : Hp} {c : Value} {d : Option Addr} {σ : L2.St} {H : Hp}, Gw F F' → ok F' c d σ H → ok F c d σ H
def SD.of (Γ : Fr) (O : Own) : SD := ⟨fun F σ H => ∃ F', Gw F F' ∧ Hold F' Γ O σ H, fun e ⟨F', e2, h⟩ => ⟨F', e.trans e2, h⟩⟩
def RK.val (d : D) (O : Own) : RK := ⟨fun F v H => ∃ F', Gw F F' ∧ HoldO F' O H ∧ d.ok F' v, fun e ⟨F', e2, h⟩ => ⟨F', e.trans e2, h⟩, noXo, fun _ z => z⟩
def RK.new (od : OD) (O : Own) : RK := ⟨fun F v H => ∃ F' p, Gw F F' ∧ v = .ref p ∧ HoldO F' ((p, od) :: O) H, fun e ⟨F', p, e2, h⟩ => ⟨F', p, e.trans e2, h⟩, noXo, fun _ z => z⟩
def XD.no : XD := ⟨fun _ _ _ _ _ => False, fun _ h => h⟩
structure Ek (S R : Type) where
  fs : S → SD
  rs : R → RK
  xs : Exn → XD
abbrev Ek.to {S R S' : Type} (k : Ek S R) (fs : S' → SD) : Ek S' R := ⟨fs, k.rs, k.xs⟩
def meet {S R : Type} (k : Ek S R) (F : Hp) (D : Ends) (W : WX) : Out S R → Prop
  | .nx s => ∀ σ H, (k.fs s).ok F σ H → D.nx σ H
  | .rt r => (∀ v H, (k.rs r).ok F v H → D.rt v H) ∧ ∀ c d σ H, (k.rs r).xo F c d H → W c d σ H
  | .ex x => ∀ c d σ H, (k.xs x).ok F c d σ H → W c d σ H
theorem meet.mono {S R : Type} {k : Ek S R} {F F' : Hp} {D : Ends} {W : WX} (e : Gw F F') : ∀ {o : Out S R}, meet k F D W o → meet k F' D W o
  | .nx s, h => fun σ H q => h σ H ((k.fs s).anti e q)
  | .rt r, h => ⟨fun v H q => h.1 v H ((k.rs r).anti e q), fun c d σ H q => h.2 c d σ H ((k.rs r).xanti e q)⟩
  | .ex x, h => fun c d σ H q => h c d σ H ((k.xs x).anti e q)
def WSs (X : Cx) (ss : List Stmt) : TS := fun D σ H => ∀ (pins : List (Addr × Obj)) (s : Shared), Inv X pins σ H s → wpAny (model X.prog X.w) X.A (execs ss X.env) (SP X pins D) X.xe s
theorem pss_can {X : Cx} {ss : List Stmt} : PSs X ss (WSs X ss) := ⟨fun pins s _ _ _ I h => h pins s I⟩
theorem wss_of {X : Cx} {ss : List Stmt} {t : TS} {D : Ends} {σ : L2.St} {H : Hp} (h : PSs X ss t) (q : t D σ H) : WSs X ss D σ H := fun pins s I => h.run pins s σ H D I q
structure SS (G : Cfg) (C : Sc) (ss : List Stmt) (Γ : Fr) (O : Own) {S R : Type} (k : Ek S R) (o : Out S R) : Prop where
  run : ∀ X, InC G C X → ∀ W, Takes X W → ∀ (F : Hp) (σ : L2.St) (H : Hp), Hold F Γ O σ H → ∀ D, meet k F D W o → WSs X ss D σ H
def lt {α β : Type} (a : α) (f : α → β) : β := f a
section
variable {G : Cfg} {C : Sc} {Γ Γ' : Fr} {O O' : Own} {S S1 R B : Type} {k : Ek S R} {o : Out S R} {e c : Expr} {d : D} {ss ta tb : List Stmt} {st : Stmt} {pos p1 p2 : Pos} {x : Str}
theorem ss_cons {t : Cx → TS} (hp : ∀ X, InC G C X → PS X st (t X)) (h : ∀ X, InC G C X → ∀ W, Takes X W → ∀ (F : Hp) (σ : L2.St) (H : Hp), Hold F Γ O σ H → ∀ D, meet k F D W o → t X { D with nx := WSs X ss D } σ H) : SS G C (st :: ss) Γ O k o := .mk fun X c W tk F σ H hh D m =>
  wss_of (pss_cons (hp X c) pss_can) (h X c W tk F σ H hh D m)
def FrLe : Fr → Fr → Prop
  | [], [] => True
  | a :: Γ, b :: Γ' => (b = none ∨ b = a) ∧ FrLe Γ Γ'
  | _, _ => False
theorem FrLe.at : ∀ {Γ Γ' : Fr} {i : Nat} {d : D}, FrLe Γ Γ' → Γ'[i]? = some (some d) → Γ[i]? = some (some d)
  | [], [], _, _, _, e => by simp at e
  | a :: Γ, b :: Γ', 0, d, h, e => by
    simp at e
    subst e
    rcases h.1 with h | h
    · cases h
    · rw [← h]; rfl
  | a :: Γ, b :: Γ', i + 1, d, h, e => by
    simp at e ⊢
    exact FrLe.at h.2 e
  | [], _ :: _, _, _, h, _ => h.elim
  | _ :: _, [], _, _, h, _ => h.elim
theorem FrLe.len : ∀ {Γ Γ' : Fr}, FrLe Γ Γ' → Γ'.length = Γ.length
  | [], [], _ => rfl
  | _ :: _, _ :: _, h => by simp [FrLe.len h.2]
  | [], _ :: _, h => h.elim
  | _ :: _, [], h => h.elim
theorem FrOk.le {F : Hp} {σ : L2.St} (h : FrOk F Γ σ) (l : FrLe Γ Γ') : FrOk F Γ' σ := ⟨by rw [l.len]; exact h.1, fun i d e => h.2 i d (l.at e)⟩
theorem FrLe.refl : ∀ {Γ : Fr}, FrLe Γ Γ
  | [] => trivial
  | _ :: _ => ⟨.inr rfl, FrLe.refl⟩
theorem ss_nil {s : S} (h : ∀ F σ H, Hold F Γ O σ H → (k.fs s).ok F σ H) : SS G C [] Γ O k (.nx s) := .mk fun X c W tk F σ H hh D m => wss_of pss_nil (m σ H (h F σ H hh))
theorem ss_end {s : S1} {fs : S1 → SD} {S2 : Type} {k2 : Ek S2 R} (h : ∀ F σ H, Hold F Γ O σ H → (fs s).ok F σ H) : SS G C [] Γ O (k2.to fs) (.nx s) := ss_nil h
theorem hold_end (l : FrLe Γ Γ') : ∀ F σ H, Hold F Γ O σ H → (SD.of Γ' O).ok F σ H := fun F σ H hh => ⟨F, Gw.refl F, hh.fr.le l, hh.ho⟩
theorem ss_ret {r : R} (h : E G C e Γ O d) (hr : ∀ F v H, (RK.val d O).ok F v H → (k.rs r).ok F v H) : SS G C (.Return (some e) pos :: ss) Γ O k (.rt r) :=
  ss_cons (t := fun X => tRet (WE X e)) (fun _ _ => ps_ret pe_can) fun X c W tk F σ H hh D m => h.run X c F σ H hh _ fun F1 H1 v e1 h1 d1 => m.1 v H1 (hr F v H1 ⟨F1, e1, h1.ho, d1⟩)
theorem ss_retN {od : OD} {r : R} (h : EN G C e Γ O od) (hr : ∀ F v H, (RK.new od O).ok F v H → (k.rs r).ok F v H) : SS G C (.Return (some e) pos :: ss) Γ O k (.rt r) :=
  ss_cons (t := fun X => tRet (WE X e)) (fun _ _ => ps_ret pe_can) fun X c W tk F σ H hh D m => h.run X c F σ H hh _ fun F1 H1 p e1 h1 => m.1 _ H1 (hr F _ H1 ⟨F1, p, e1, rfl, h1.ho⟩)
structure Loca (C : Sc) (i : Nat) (x : Str) : Prop where
  n : C.N[i]? = some x
  nd : C.N.Nodup
  l : L2.Loc C.sc x
  f : C.top = true ∨ C.sc.names.lookup x = some .local
def locB (C : Sc) (i : Nat) (x : Str) : Bool := decide (C.N[i]? = some x) && decide C.N.Nodup && (match C.sc.names.lookup x with
  | some .local => true
  | some .cell => C.top
  | _ => false)
theorem loc_of {C : Sc} {i : Nat} {x : Str} (h : locB C i x = true) : Loca C i x := by
  unfold locB at h
  simp only [Bool.and_eq_true, decide_eq_true_eq] at h
  obtain ⟨⟨h1, h2⟩, h3⟩ := h
  refine ⟨h1, h2, ?_, ?_⟩
  · unfold L2.Loc
    revert h3
    cases C.sc.names.lookup x with
    | none => intro h; cases h
    | some k => cases k <;> intro h <;> first | exact .inl rfl | exact .inr rfl | cases h
  · revert h3
    cases C.sc.names.lookup x with
    | none => intro h; cases h
    | some k => cases k <;> intro h <;> first | exact .inr rfl | exact .inl h | cases h
theorem Loca.pg {X : Cx} {i : Nat} (l : Loca C i x) (c : InC G C X) : PG X (.Name x pos) (gName i) :=
  pg_name (by rw [c.n]; exact l.nd) (by rw [c.n]; exact l.n) (by rw [c.sc]; exact l.l) (by rcases l.f with h | h; exact .inl (c.fn h x); exact .inr (by rw [c.sc]; exact h))
theorem ss_asg {α : Type} {f : α → D} {a : α} {i : Nat} (ι : B → Out S R) {g : α → B} (l : Loca C i x) (hs : ∀ env, swapsWith e (some (.Name x p1)) pos.line env = pure false) (h : E G C e Γ O (f a)) (hr : ∀ y, y = a → SS G C ss (Γ.set i (some (f y))) O k (ι (g y))) : SS G C (.Assign [.Name x p1] e pos :: ss) Γ O k (ι (lt a g)) :=
  ss_cons (t := fun X => tAsg (WE X e) (gName i)) (fun X c => ps_set (by rw [c.n]; exact l.nd) (by rw [c.n]; exact l.n) (by rw [c.sc]; exact l.l) pe_can (hs X.env) (by rcases l.f with h | h; exact .inl (c.fn h x); exact .inr (by rw [c.sc]; exact h)))
    fun X c W tk F σ H hh D m => h.run X c F σ H hh _ fun F1 H1 v e1 h1 d1 => (hr a rfl).run X c W tk F1 _ H1 (h1.set i d1) D (meet.mono e1 m)
theorem ss_new {od : OD} {i : Nat} (l : Loca C i x) (hs : ∀ env, swapsWith e (some (.Name x p1)) pos.line env = pure false) (h : EN G C e Γ O od) (hr : ∀ p, SS G C ss (Γ.set i (some (dP p))) ((p, od) :: O) k o) : SS G C (.Assign [.Name x p1] e pos :: ss) Γ O k o :=
  ss_cons (t := fun X => tAsg (WE X e) (gName i)) (fun X c => ps_set (by rw [c.n]; exact l.nd) (by rw [c.n]; exact l.n) (by rw [c.sc]; exact l.l) pe_can (hs X.env) (by rcases l.f with h | h; exact .inl (c.fn h x); exact .inr (by rw [c.sc]; exact h)))
    fun X c W tk F σ H hh D m => h.run X c F σ H hh _ fun F1 H1 p e1 h1 => (hr p).run X c W tk F1 _ H1 (Hold.set i h1 rfl) D (meet.mono e1 m)
theorem ss_if {b : Bool} {r1 r2 : B} (ι : B → Out S R) (h : T G C c Γ O b) (h1 : b = true → SS G C ta Γ O k (ι r1)) (h2 : b = false → SS G C tb Γ O k (ι r2)) : SS G C [.If c ta tb pos] Γ O k (ι (if b then r1 else r2)) := .mk fun X c0 W tk F σ H hh D m =>
  wss_of (t := tIfS (WT X c) (WSs X ta) (WSs X tb)) (pss_one (ps_if pt_can pss_can pss_can)) (h.run X c0 F σ H hh _ fun F1 H1 e1 h3 => by
    cases b with
    | true => exact iteT ((h1 rfl).run X c0 W tk F1 σ H1 h3 D (meet.mono e1 m))
    | false => exact iteF ((h2 rfl).run X c0 W tk F1 σ H1 h3 D (meet.mono e1 m)))
theorem ss_when {b : Bool} {r1 r2 : B} (ι : B → Out S R) (h : T G C c Γ O b) (hn : ∀ s, ι r1 ≠ .nx s) (h1 : b = true → SS G C ta Γ O k (ι r1)) (h2 : b = false → SS G C ss Γ O k (ι r2)) : SS G C (.If c ta [] pos :: ss) Γ O k (ι (if b then r1 else r2)) := .mk fun X c0 W tk F σ H hh D m =>
  wss_of (t := tSeq (tIfS (WT X c) (WSs X ta) tNext) (WSs X ss)) (pss_cons (ps_if pt_can pss_can pss_nil) pss_can) (h.run X c0 F σ H hh _ fun F1 H1 e1 h3 => by
    cases b with
    | true =>
      refine iteT ((h1 rfl).run X c0 W tk F1 σ H1 h3 _ ?_)
      have m1 := meet.mono e1 m
      rw [if_pos rfl] at m1
      revert m1 hn
      generalize ι r1 = o1
      intro hn m1
      cases o1 with
      | nx s => exact absurd rfl (hn s)
      | rt r => exact m1
      | ex x => exact m1
    | false => exact iteF ((h2 rfl).run X c0 W tk F1 σ H1 h3 D (meet.mono e1 m)))
theorem ss_join {b : Bool} {s1 s2 : S1} {g : S1 → B} (Γ1 : S1 → Fr) (O1 : S1 → Own) (ι : B → Out S R) (h : T G C c Γ O b) (h1 : b = true → SS G C ta Γ O (k.to fun s => SD.of (Γ1 s) (O1 s)) (.nx s1)) (h2 : b = false → SS G C tb Γ O (k.to fun s => SD.of (Γ1 s) (O1 s)) (.nx s2))
    (hr : ∀ s, s = (if b then s1 else s2) → SS G C ss (Γ1 s) (O1 s) k (ι (g s))) : SS G C (.If c ta tb pos :: ss) Γ O k (ι (lt (if b then s1 else s2) g)) := .mk fun X c0 W tk F σ H hh D m =>
  wss_of (t := tSeq (tIfS (WT X c) (WSs X ta) (WSs X tb)) (WSs X ss)) (pss_cons (ps_if pt_can pss_can pss_can) pss_can) (h.run X c0 F σ H hh _ fun F1 H1 e1 h3 => by
    have fin : ∀ F', Gw F1 F' → ∀ σ' H', (SD.of (Γ1 (if b then s1 else s2)) (O1 (if b then s1 else s2))).ok F' σ' H' → WSs X ss D σ' H' := fun F' e' σ' H' ⟨F2, e2, h4⟩ => (hr _ rfl).run X c0 W tk F2 σ' H' h4 D (meet.mono ((e1.trans e').trans e2) m)
    cases b with
    | true => exact iteT ((h1 rfl).run X c0 W tk F1 σ H1 h3 _ fun σ' H' q => fin F1 (Gw.refl _) σ' H' q)
    | false => exact iteF ((h2 rfl).run X c0 W tk F1 σ H1 h3 _ fun σ' H' q => fin F1 (Gw.refl _) σ' H' q))
def Out.bind (o : Out S1 R) (g : S1 → Out S R) : Out S R := match o with
  | .nx s => g s
  | .rt r => .rt r
  | .ex x => .ex x
end
end Kn
namespace Kn
open PySem PySem.Spec L2
def WG (X : Cx) (tg : Expr) : TG := fun v σ H Q => ∀ (pins : List (Addr × Obj)) (s : Shared) (u : Value), Inv X pins σ H s → RelV v u → wpAny (model X.prog X.w) X.A (assign tg X.env u) (fun _ s' => ∃ σ' H', Inv X pins σ' H' s' ∧ Q σ' H') X.xe s
theorem pg_can {X : Cx} {tg : Expr} : PG X tg (WG X tg) := ⟨fun pins s _ _ _ u _ I r h => h pins s u I r⟩
def WGs (X : Cx) (ts : List Expr) : TGs := fun vs σ H Q => ∀ (pins : List (Addr × Obj)) (s : Shared) (us : List Value), Inv X pins σ H s → Vals vs us → wpAny (model X.prog X.w) X.A (assignInOrder ((assignEach ts X.env).map (·.2)) us) (fun _ s' => ∃ σ' H', Inv X pins σ' H' s' ∧ Q σ' H') X.xe s
theorem pgs_can {X : Cx} {ts : List Expr} : PGs X ts (WGs X ts) := ⟨fun pins s _ _ _ us _ I r h => h pins s us I r⟩
def But (is : List Nat) (σ σ' : L2.St) : Prop := σ'.length = σ.length ∧ ∀ j, j ∉ is → σ'[j]? = σ[j]?
theorem But.refl {is : List Nat} {σ : L2.St} : But is σ σ := ⟨rfl, fun _ _ => rfl⟩
theorem But.trans {is js : List Nat} {σ σ1 σ2 : L2.St} (a : But is σ σ1) (b : But js σ1 σ2) : But (is ++ js) σ σ2 := ⟨b.1.trans a.1, fun j h => (b.2 j fun z => h (List.mem_append_right _ z)).trans (a.2 j fun z => h (List.mem_append_left _ z))⟩
theorem But.set {i : Nat} {σ : L2.St} {v : Option V} : But [i] σ (σ.set i v) := ⟨List.length_set .., fun j h => List.getElem?_set_ne fun e => h (by rw [e]; exact List.mem_singleton.mpr rfl)⟩
structure TJ (G : Cfg) (C : Sc) (tg : Expr) (d : D) (Γ Γ' : Fr) (is : List Nat) : Prop where
  run : ∀ X, InC G C X → ∀ (F : Hp) (O : Own) (σ : L2.St) (H : Hp) (v : V), Hold F Γ O σ H → d.ok F v → ∀ Q : L2.St → Hp → Prop, (∀ σ', Hold F Γ' O σ' H → But is σ σ' → Q σ' H) → WG X tg v σ H Q
structure TJs (G : Cfg) (C : Sc) (ts : List Expr) (ds : List D) (Γ Γ' : Fr) (is : List Nat) : Prop where
  run : ∀ X, InC G C X → ∀ (F : Hp) (O : Own) (σ : L2.St) (H : Hp) (vs : List V), Hold F Γ O σ H → AllD F ds vs → ∀ Q : L2.St → Hp → Prop, (∀ σ', Hold F Γ' O σ' H → But is σ σ' → Q σ' H) → WGs X ts vs σ H Q
def forL {S α R : Type} (f : S → α → Out S R) : List α → S → Out S R
  | [], s => .nx s
  | x :: xs, s => match f s x with
    | .nx s' => forL f xs s'
    | .rt r => .rt r
    | .ex e => .ex e
theorem forL_snoc {S α R : Type} {f : S → α → Out S R} {x : α} {post : List α} : ∀ {pre : List α} {s0 s : S}, forL f pre s0 = .nx s → forL f (pre ++ x :: post) s0 = (match f s x with
    | .nx s' => forL f post s'
    | .rt r => .rt r
    | .ex e => .ex e)
  | [], s0, s, h => by cases h; rfl
  | y :: pre, s0, s, h => by
    have h1 : (match f s0 y with
      | .nx s' => forL f pre s'
      | .rt r => .rt r
      | .ex e => .ex e) = Out.nx s := h
    show (match f s0 y with
      | .nx s' => forL f (pre ++ x :: post) s'
      | .rt r => .rt r
      | .ex e => .ex e) = _
    cases e : f s0 y with
    | nx s' => rw [e] at h1; exact forL_snoc (pre := pre) h1
    | rt r => rw [e] at h1; cases h1
    | ex r => rw [e] at h1; cases h1
theorem forL_fold {S α R : Type} {h : S → α → S} : ∀ {xs : List α} {s0 : S}, forL (R := R) (fun s x => .nx (h s x)) xs s0 = .nx (xs.foldl h s0)
  | [], _ => rfl
  | _ :: xs, _ => forL_fold (xs := xs)
structure Feeds (P : Own → Prop) (J : It) (F0 : Hp) (ds : List D) : Prop where
  item : ∀ (i : Nat) (d : D), ds[i]? = some d → ∀ F O H, P O → Gw F0 F → HoldO F O H → J.go i H ∧ ∀ x H', J.yld i H x H' → ∃ F', Gw F F' ∧ HoldO F' O H' ∧ d.ok F' x
  stop : ∀ F O H, P O → Gw F0 F → HoldO F O H → J.stop ds.length H
theorem Feeds.mono {P : Own → Prop} {J : It} {F F' : Hp} {ds : List D} (h : Feeds P J F ds) (e : Gw F F') : Feeds P J F' ds := ⟨fun i d q F1 O H p e1 => h.item i d q F1 O H p (e.trans e1), fun F1 O H p e1 => h.stop F1 O H p (e.trans e1)⟩
def WI (X : Cx) (tg e : Expr) : TI := fun σ H R => ∀ (pins : List (Addr × Obj)) (s : Shared), Inv X pins σ H s → wpAny (model X.prog X.w) X.A (eval e X.env) (fun v s1 => wpAny (model X.prog X.w) X.A (pyIter v) (PIE X pins σ tg R) X.xe s1) X.xe s
theorem pi_can {X : Cx} {tg e : Expr} : PI X tg e (WI X tg e) := ⟨fun pins s _ _ _ I h => h pins s I⟩
theorem wi_of {X : Cx} {tg e : Expr} {t : TI} {σ : L2.St} {H : Hp} {R : It → Hp → Prop} (h : PI X tg e t) (q : t σ H R) : WI X tg e σ H R := fun pins s I => h.run pins s σ H R I q
structure EI (G : Cfg) (C : Sc) (tg e : Expr) (Γ : Fr) (O : Own) (P : Own → Prop) (ds : List D) : Prop where
  run : ∀ X, InC G C X → ∀ (F : Hp) (σ : L2.St) (H : Hp), Hold F Γ O σ H → ∀ R : It → Hp → Prop, (∀ J F' H', Gw F F' → Hold F' Γ O σ H' → Feeds P J F' ds → R J H') → WI X tg e σ H R
abbrev anyO : Own → Prop := fun _ => True
section
variable {G : Cfg} {C : Sc} {Γ Γ' : Fr} {O O' : Own} {S S1 R B α : Type} {k : Ek S R} {o : Out S R} {e c it tg : Expr} {d : D} {ds : List D} {ss body : List Stmt} {st : Stmt} {pos p1 p2 : Pos} {x : Str} {es : List Expr} {P : Own → Prop} {is : List Nat}
theorem tj_name {i : Nat} (l : Loca C i x) : TJ G C (.Name x pos) d Γ (Γ.set i (some d)) [i] := .mk fun X c F O σ H v hh hd Q q pins s u I r =>
  (l.pg c).run pins s σ H v u Q I r (q _ (hh.set i hd) But.set)
theorem tjs_nil : TJs G C [] [] Γ Γ [] := .mk fun X c F O σ H vs hh hd Q q pins s us I r => by
  cases vs with
  | nil => exact pgs_nil.run pins s σ H [] us Q I r ⟨rfl, q σ hh But.refl⟩
  | cons v vs => exact hd.elim
theorem tjs_cons {Γ2 : Fr} {is js : List Nat} (h : TJ G C e d Γ Γ' is) (hr : TJs G C es ds Γ' Γ2 js) (hs : ∀ env, (assignEach (e :: es) env).map (·.2) = assign e env :: (assignEach es env).map (·.2)) : TJs G C (e :: es) (d :: ds) Γ Γ2 (is ++ js) := .mk fun X c F O σ H vs hh hd Q q pins s us I r => by
  cases vs with
  | nil => exact hd.elim
  | cons v vs => exact (pgs_cons pg_can pgs_can (hs X.env)).run pins s σ H (v :: vs) us Q I r ⟨v, vs, rfl, h.run X c F O σ H v hh hd.1 _ fun σ1 h1 b1 => hr.run X c F O σ1 H vs h1 hd.2 Q fun σ2 h2 b2 => q σ2 h2 (b1.trans b2)⟩
theorem tj_tup [Calm C] {kk : Nat} {is : List Nat} (h : TJs G C es ds Γ Γ' is) (hn : ∀ env, (assignEach es env).length = ds.length) (hst : ∀ env, (assignEach es env).findIdx? (·.1) = none) : TJ G C (.Tuple es kk pos) (dTup G.K ds) Γ Γ' is := .mk fun X c F O σ H v hh hd Q q pins s u I r => by
  obtain ⟨a, vs, rfl, hs, ha⟩ := hd
  refine (pg_tup c.cm pgs_can (hn X.env) (hst X.env)).run pins s σ H _ u Q I r ⟨a, vs, rfl, by rw [c.K]; exact gw_t hh.ho.ex hs, AllD.length ha, ?_⟩
  exact h.run X c F O σ H vs hh ha Q q
theorem ss_for [Calm C] {df : α → D} {xs : List α} {f : S1 → α → Out S1 R} {s0 : S1} {g : S1 → Out S R} (Γ1 : S1 → Fr) (Γ2 : S1 → α → Fr) (O1 : S1 → Own) (hi : EI G C tg it Γ O P (xs.map df)) (l0 : FrLe Γ (Γ1 s0)) (o0 : O = O1 s0) (hP : ∀ s, P (O1 s))
    (hg : ∀ s x, TJ G C tg (df x) (Γ1 s) (Γ2 s x) is)
    (hb : ∀ s x pre post, xs = pre ++ x :: post → forL f pre s0 = .nx s → SS G C body (Γ2 s x) (O1 s) (k.to fun s => SD.of (Γ1 s) (O1 s)) (f s x))
    (hr : ∀ s, forL f xs s0 = .nx s → SS G C ss (Γ1 s) (O1 s) k (g s)) (hs : ∀ env x, foldedSetIterable it env x = pure x) : SS G C (.For tg it body [] pos :: ss) Γ O k ((forL f xs s0).bind g) :=
  ss_cons (t := fun X => tFor (WI X tg it) (WG X tg) (WSs X body)) (fun X c => ps_for c.po c.cm pi_can pg_can pss_can (hs X.env)) fun X c W tk F σ H hh D m => by
    refine hi.run X c F σ H hh _ fun J F1 H1 e1 h1 fd => ?_
    refine ⟨fun i mm σ' H' => ∃ s F', mm = xs.length - i ∧ i ≤ xs.length ∧ forL f (xs.take i) s0 = .nx s ∧ Gw F1 F' ∧ Hold F' (Γ1 s) (O1 s) σ' H', ⟨xs.length, s0, F1, rfl, Nat.zero_le _, rfl, Gw.refl _, h1.fr.le l0, o0 ▸ h1.ho⟩, ?_⟩
    rintro i mm σ' H' ⟨s, F', rfl, hil, hf, e2, h2⟩
    by_cases hlt : i < xs.length
    · refine .inr ⟨?_, ?_⟩
      · have hd : (xs.map df)[i]? = some (df xs[i]) := by rw [List.getElem?_map, List.getElem?_eq_getElem hlt]; rfl
        exact (fd.item i _ hd F' (O1 s) H' (hP s) e2 h2.ho).1
      · have hd : (xs.map df)[i]? = some (df xs[i]) := by rw [List.getElem?_map, List.getElem?_eq_getElem hlt]; rfl
        have hsplit : xs = xs.take i ++ xs[i] :: xs.drop (i + 1) := by
          have a := List.take_append_drop i xs
          rw [List.drop_eq_getElem_cons hlt] at a
          exact a.symm
        refine ⟨fun σ3 H3 => ∃ s3 F3, f s xs[i] = .nx s3 ∧ Gw F1 F3 ∧ Hold F3 (Γ1 s3) (O1 s3) σ3 H3, ?_, fun x H3 hy => ?_⟩
        · rintro σ3 H3 ⟨s3, F3, e3, x3, h3⟩
          refine ⟨xs.length - (i + 1), by omega, s3, F3, rfl, hlt, ?_, x3, h3⟩
          have a : xs.take (i + 1) = xs.take i ++ xs[i] :: [] := List.take_succ_eq_append_getElem hlt
          rw [a, forL_snoc hf, e3]
          rfl
        · obtain ⟨F3, e3, h3, d3⟩ := (fd.item i _ hd F' (O1 s) H' (hP s) e2 h2.ho).2 x H3 hy
          refine (hg s xs[i]).run X c F3 (O1 s) σ' H3 x ⟨h2.fr.mono e3, h3⟩ d3 _ fun σ4 h4 _ => ?_
          refine (hb s xs[i] (xs.take i) (xs.drop (i + 1)) hsplit hf).run X c W tk F3 σ4 H3 h4 _ ?_
          have me : forL f xs s0 = (match f s xs[i] with
            | .nx s' => forL f (xs.drop (i + 1)) s'
            | .rt r => .rt r
            | .ex e => .ex e) := by
            have a := forL_snoc (f := f) (x := xs[i]) (post := xs.drop (i + 1)) hf
            rw [← hsplit] at a
            exact a
          have m1 := meet.mono ((e1.trans e2).trans e3) m
          rw [me] at m1
          cases ef : f s xs[i] with
          | nx s' =>
            intro σ5 H5 q
            obtain ⟨F5, e5, h5⟩ := q
            exact ⟨s', F5, rfl, (e2.trans e3).trans e5, h5⟩
          | rt r =>
            rw [ef] at m1
            exact m1
          | ex r =>
            rw [ef] at m1
            exact m1
    · have hi' : i = xs.length := by omega
      subst hi'
      refine .inl ⟨?_, ?_⟩
      · have a := fd.stop F' (O1 s) H' (hP s) e2 h2.ho
        rw [List.length_map] at a
        exact a
      · rw [List.take_length] at hf
        refine (hr s hf).run X c W tk F' σ' H' h2 D ?_
        have m1 := meet.mono (e1.trans e2) m
        rw [hf] at m1
        exact m1
theorem ss_fold [Calm C] {df : α → D} {xs : List α} {f : S1 → α → S1} {s0 : S1} {g : S1 → B} (ι : B → Out S R) (Γ1 : S1 → Fr) (Γ2 : S1 → α → Fr) (O1 : S1 → Own) (hi : EI G C tg it Γ O P (xs.map df)) (l0 : FrLe Γ (Γ1 s0)) (o0 : O = O1 s0) (hP : ∀ s, P (O1 s))
    (hg : ∀ s x, TJ G C tg (df x) (Γ1 s) (Γ2 s x) is)
    (hb : ∀ s x pre post, xs = pre ++ x :: post → s = pre.foldl f s0 → SS G C body (Γ2 s x) (O1 s) (k.to fun s => SD.of (Γ1 s) (O1 s)) (.nx (f s x)))
    (hr : ∀ s, s = xs.foldl f s0 → SS G C ss (Γ1 s) (O1 s) k (ι (g s))) (hs : ∀ env x, foldedSetIterable it env x = pure x) : SS G C (.For tg it body [] pos :: ss) Γ O k (ι (lt (xs.foldl f s0) g)) := by
  have a := ss_for (ss := ss) (pos := pos) (k := k) (g := fun s => ι (g s)) (f := fun s x => .nx (f s x)) Γ1 Γ2 O1 hi l0 o0 hP hg (fun s x pre post e h => hb s x pre post e (by rw [forL_fold] at h; cases h; rfl)) (fun s h => hr s (by rw [forL_fold] at h; cases h; rfl)) hs
  rw [forL_fold] at a
  exact a
theorem ei_list (h : E G C it Γ O (dLst G.K ds)) : EI G C tg it Γ O anyO ds := .mk fun X c F σ H hh R q =>
  wi_of (pi_list pe_can) (h.run X c F σ H hh _ fun F1 H1 v e1 h1 d1 => by
    obtain ⟨a, vs, rfl, hs, ha⟩ := d1
    have hs' : ∀ {F' O' H'}, Gw F1 F' → HoldO F' O' H' → SqL X.K H' a vs := fun e h => by rw [c.K]; exact gw_l (e.trans h.ex) hs.sq
    refine ⟨a, rfl, ⟨vs, hs' (Gw.refl _) h1.ho⟩, q _ F1 H1 e1 h1 ⟨fun i d hd F O H _ e h => ?_, fun F O H _ e h => ?_⟩⟩
    · obtain ⟨v, hv, dv⟩ := AllD.get ha hd
      refine ⟨⟨vs, v, hs' e h, hv⟩, fun x H' hy => ?_⟩
      obtain ⟨rfl, hx⟩ := hy
      have z := hx vs (hs' e h)
      rw [hv] at z
      cases z
      exact ⟨F, Gw.refl F, h, d.mono e dv⟩
    · exact ⟨vs, hs' e h, by rw [AllD.length ha]; exact Nat.le_refl _⟩)
theorem ei_tup (h : E G C it Γ O (dTup G.K ds)) : EI G C tg it Γ O anyO ds := .mk fun X c F σ H hh R q =>
  wi_of (pi_tup pe_can) (h.run X c F σ H hh _ fun F1 H1 v e1 h1 d1 => by
    obtain ⟨a, vs, rfl, hs, ha⟩ := d1
    have hs' : ∀ {F' O' H'}, Gw F1 F' → HoldO F' O' H' → SqT X.K H' a vs := fun e h => by rw [c.K]; exact gw_t (e.trans h.ex) hs
    refine ⟨a, rfl, ⟨vs, hs' (Gw.refl _) h1.ho⟩, q _ F1 H1 e1 h1 ⟨fun i d hd F O H _ e h => ?_, fun F O H _ e h => ?_⟩⟩
    · obtain ⟨v, hv, dv⟩ := AllD.get ha hd
      refine ⟨⟨vs, v, hs' e h, hv⟩, fun x H' hy => ?_⟩
      obtain ⟨rfl, hx⟩ := hy
      have z := hx vs (hs' e h)
      rw [hv] at z
      cases z
      exact ⟨F, Gw.refl F, h, d.mono e dv⟩
    · exact ⟨vs, hs' e h, by rw [AllD.length ha]; exact Nat.le_refl _⟩)
def signs (z : Str) : List Str := z.cps.toList.map fun c => ⟨#[c]⟩
theorem ei_str {z : Str} (h : E G C it Γ O (dS z)) : EI G C tg it Γ O anyO ((signs z).map dS) := .mk fun X c F σ H hh R q =>
  wi_of (pi_str pe_can) (h.run X c F σ H hh _ fun F1 H1 v e1 h1 d1 => by
    refine ⟨z, d1.1, q _ F1 H1 e1 h1 ⟨fun i d hd F O H _ e h => ?_, fun F O H _ e h => ?_⟩⟩
    · unfold signs at hd
      rw [List.getElem?_map, List.getElem?_map, Array.getElem?_toList] at hd
      cases hz : z.cps[i]? with
      | none => rw [hz] at hd; cases hd
      | some cc =>
        rw [hz] at hd
        cases hd
        refine ⟨(Array.getElem?_eq_some_iff.mp hz).1, fun x H' hy => ?_⟩
        obtain ⟨rfl, c', hc', rfl⟩ := hy
        rw [hz] at hc'
        cases hc'
        exact ⟨F, Gw.refl F, h, rfl, okS_sign d1.2 (Array.mem_toList_iff.mpr (Array.mem_of_getElem? hz))⟩
    · show z.cps.size ≤ _
      unfold signs
      rw [List.length_map, List.length_map, Array.length_toList]
      exact Nat.le_refl _)
def upto (n : Int) : List Int := (List.range n.toNat).map fun i => ((i : Nat) : Int)
def range2 (a b : Int) : List Int := (List.range (b - a).toNat).map fun i => a + ((i : Nat) : Int)
theorem ei_range {a : Expr} {n : Int} (g : Glo C "range") (hm : G.mg "range" = none) (h : E G C a Γ O (dI n)) (hn : -(2 ^ 62) ≤ n ∧ n < 2 ^ 62) (hs : ∀ env, starEach [a] env = [(false, eval a env)]) : EI G C tg (.Call (.Name "range" p1) [a] [] pos) Γ O anyO ((upto n).map dI) := .mk fun X c F σ H hh R q =>
  wi_of (pi_range1 (c.gl g) (by rw [c.mg]; exact hm) (pa_cons pe_can pa_nil (by rw [hs]; rfl)) (hs X.env)) (h.run X c F σ H hh _ fun F1 H1 v e1 h1 d1 => by
    refine ⟨n, by rw [show v = .int n from d1], hn.1, hn.2, q _ F1 H1 e1 h1 ⟨fun i d hd F O H _ e h => ?_, fun F O H _ e h => ?_⟩⟩
    · unfold upto at hd
      rw [List.getElem?_map, List.getElem?_map] at hd
      by_cases hi : i < n.toNat
      · rw [List.getElem?_range hi] at hd
        cases hd
        refine ⟨hi, fun x H' hy => ?_⟩
        obtain ⟨rfl, rfl⟩ := hy
        exact ⟨F, Gw.refl F, h, by rw [Int.zero_add]; rfl⟩
      · rw [List.getElem?_eq_none (by rw [List.length_range]; omega)] at hd
        cases hd
    · show n.toNat ≤ _
      unfold upto
      rw [List.length_map, List.length_map, List.length_range]
      exact Nat.le_refl _)
theorem ei_range2 {a b : Expr} {m n : Int} (g : Glo C "range") (hm : G.mg "range" = none) (h : A G C [a, b] Γ O [dI m, dI n]) (hn : -(2 ^ 62) ≤ m ∧ m < 2 ^ 62 ∧ -(2 ^ 62) ≤ n ∧ n < 2 ^ 62) (hs : ∀ env, starEach [a, b] env = [(false, eval a env), (false, eval b env)]) (hs2 : ∀ env, starEach [b] env = [(false, eval b env)]) : EI G C tg (.Call (.Name "range" p1) [a, b] [] pos) Γ O anyO ((range2 m n).map dI) := .mk fun X c F σ H hh R q =>
  wi_of (pi_range2 (c.gl g) (by rw [c.mg]; exact hm) pa_can (hs X.env) (hs2 X.env)) (h.run X c F σ H hh _ fun F1 H1 vs e1 h1 d1 => by
    obtain ⟨v, u, rfl, dv, du⟩ : ∃ v u, vs = [v, u] ∧ v = .int m ∧ u = .int n := by
      match vs, d1 with
      | [v, u], d1 => exact ⟨v, u, rfl, d1.1, d1.2.1⟩
      | [], d1 => exact d1.elim
      | [_], d1 => exact d1.2.elim
      | _ :: _ :: _ :: _, d1 => exact d1.2.2.elim
    subst dv du
    refine ⟨m, n, rfl, hn, q _ F1 H1 e1 h1 ⟨fun i d hd F O H _ e h => ?_, fun F O H _ e h => ?_⟩⟩
    · unfold range2 at hd
      rw [List.getElem?_map, List.getElem?_map] at hd
      by_cases hi : i < (n - m).toNat
      · rw [List.getElem?_range hi] at hd
        cases hd
        refine ⟨hi, fun x H' hy => ?_⟩
        obtain ⟨rfl, rfl⟩ := hy
        exact ⟨F, Gw.refl F, h, rfl⟩
      · rw [List.getElem?_eq_none (by rw [List.length_range]; omega)] at hd
        cases hd
    · show (n - m).toNat ≤ _
      unfold range2
      rw [List.length_map, List.length_map, List.length_range]
      exact Nat.le_refl _)
end
end Kn
namespace Kn
open PySem PySem.Spec L2
def nth {α : Type} [Inhabited α] (xs : List α) (i : Int) : α := (atI xs i).getD default
def inR (n : Nat) (i : Int) : Prop := -(n : Int) ≤ i ∧ i < n
theorem ixN_some {n : Nat} {i : Int} (h : inR n i) : ∃ j, ixN n i = some j ∧ j < n := by
  obtain ⟨h1, h2⟩ := h
  unfold ixN
  by_cases h0 : 0 ≤ i
  · rw [if_pos h0, if_pos h2]
    exact ⟨_, rfl, by omega⟩
  · rw [if_neg h0, if_pos h1]
    exact ⟨_, rfl, by omega⟩
theorem atI_nth {α : Type} [Inhabited α] {xs : List α} {i : Int} (h : inR xs.length i) : atI xs i = some (nth xs i) := by
  obtain ⟨j, e, hj⟩ := ixN_some h
  have a : atI xs i = some xs[j] := by
    unfold atI
    rw [e]
    exact List.getElem?_eq_getElem hj
  unfold nth
  rw [a]
  rfl
theorem nth_nat {α : Type} [Inhabited α] {xs : List α} {i : Int} (h0 : 0 ≤ i) (h : i < xs.length) : nth xs i = xs[i.toNat]'(by omega) := by
  unfold nth atI ixN
  rw [if_pos h0, if_pos h]
  show ((xs[i.toNat]?).getD default) = _
  rw [List.getElem?_eq_getElem (by omega)]
  rfl
theorem atI_map {α β : Type} (f : α → β) (xs : List α) (i : Int) : atI (xs.map f) i = (atI xs i).map f := by
  unfold atI
  rw [List.length_map]
  cases ixN xs.length i with
  | none => rfl
  | some j => exact List.getElem?_map ..
theorem AllD.atI {F : Hp} {ds : List D} {vs : List V} {i : Int} {d : D} (h : AllD F ds vs) (e : L2.atI ds i = some d) : ∃ v, L2.atI vs i = some v ∧ d.ok F v := by
  unfold L2.atI at e ⊢
  rw [AllD.length h]
  cases q : ixN ds.length i with
  | none => rw [q] at e; cases e
  | some j => rw [q] at e; exact AllD.get h e
def cut {α : Type} (xs : List α) (lo hi : Option Int) : List α := (xs.drop (HT.sIx xs.length 0 lo)).take (HT.sIx xs.length xs.length hi - HT.sIx xs.length 0 lo)
theorem cut_map {α β : Type} (f : α → β) (xs : List α) (lo hi : Option Int) : cut (xs.map f) lo hi = (cut xs lo hi).map f := by
  unfold cut
  rw [List.length_map, List.map_take, List.map_drop]
theorem AllD.cut {F : Hp} {ds : List D} {vs : List V} (lo hi : Option Int) (h : AllD F ds vs) : AllD F (cut ds lo hi) (cutV vs lo hi) := by
  unfold Kn.cut cutV
  rw [AllD.length h]
  exact AllD.take _ (AllD.drop _ h)
structure EO (G : Cfg) (C : Sc) (e : Option Expr) (Γ : Fr) (O : Own) (i : Option Int) : Prop where
  run : ∀ X, InC G C X → ∃ t, PO X e t ∧ ∀ (F : Hp) (σ : L2.St) (H : Hp), Hold F Γ O σ H → ∀ Q : Option Int → Hp → Prop, (∀ F' H', Gw F F' → Hold F' Γ O σ H' → Q i H') → t σ H Q
structure CalR (G : Cfg) (C : Sc) (f : Value) (O : Own) (ds : List D) (d : D) : Prop where
  ex : ∀ X, InC G C X → ∃ r, CallR X f r ∧ RCD r O ds d
structure CalN (G : Cfg) (C : Sc) (f : Value) (O : Own) (ds : List D) (od : OD) : Prop where
  ex : ∀ X, InC G C X → ∃ r, CallR X f r ∧ RCN r O ds od
section
variable {G : Cfg} {C : Sc} {Γ : Fr} {O : Own} {e a b c : Expr} {es : List Expr} {d da db dc : D} {ds : List D} {pos p1 p2 p3 : Pos} {x : Str} {α : Type} {f : α → D}
theorem eo_none : EO G C none Γ O none := .mk fun X c => ⟨_, po_none, fun F σ H hh Q q => q F H (Gw.refl F) hh⟩
theorem eo_some {i : Int} (h : E G C e Γ O (dI i)) : EO G C (some e) Γ O (some i) := .mk fun X c => ⟨_, po_some pe_can, fun F σ H hh Q q => h.run X c F σ H hh _ fun F1 H1 v e1 h1 d1 => ⟨i, d1, q F1 H1 e1 h1⟩⟩
theorem e_ix {r : R2} (hr : ∀ X, InC G C X → IxR X r) (h : R2D r O da db d) (ha : E G C a Γ O da) (hb : E G C b Γ O db) (hs : PlainIx b) : E G C (.Subscript a b pos) Γ O d := .mk fun X c F σ H hh Q q => by
  refine we_of (pe_ix (hr X c) pe_can pe_can hs) (ha.run X c F σ H hh _ fun F1 H1 v e1 h1 d1 => ?_)
  refine hb.run X c F1 σ H1 h1 _ fun F2 H2 u e2 h2 d2 => ?_
  exact h F2 H2 v u h2.ho (da.mono e2 d1) d2 _ fun F3 H3 z e3 h3 d3 => q F3 H3 z ((e1.trans e2).trans e3) (h2.mono e3 h3) d3
theorem e_ixL {i : Int} (hi : atI ds i = some d) (ha : E G C a Γ O (dLst G.K ds)) (hb : E G C b Γ O (dI i)) (hs : PlainIx b) : E G C (.Subscript a b pos) Γ O d :=
  e_ix (r := rIxL G.K) (fun X c => c.K ▸ ix_list) (fun F H v u hh h1 h2 Q q => by
    obtain ⟨p, vs, rfl, hs, ha⟩ := h1
    obtain ⟨w, hw, dw⟩ := AllD.atI ha hi
    exact ⟨p, vs, i, w, rfl, h2, gw_l hh.ex hs.sq, hw, q F H w (Gw.refl F) hh dw⟩) ha hb hs
theorem e_ixT {i : Int} (hi : atI ds i = some d) (ha : E G C a Γ O (dTup G.K ds)) (hb : E G C b Γ O (dI i)) (hs : PlainIx b) : E G C (.Subscript a b pos) Γ O d :=
  e_ix (r := rIxT G.K) (fun X c => c.K ▸ ix_tup) (fun F H v u hh h1 h2 Q q => by
    obtain ⟨p, vs, rfl, hs, ha⟩ := h1
    obtain ⟨w, hw, dw⟩ := AllD.atI ha hi
    exact ⟨p, vs, i, w, rfl, h2, gw_t hh.ex hs, hw, q F H w (Gw.refl F) hh dw⟩) ha hb hs
theorem e_nthL [Inhabited α] {xs : List α} {i : Int} (ha : E G C a Γ O (dLst G.K (xs.map f))) (hb : E G C b Γ O (dI i)) (hi : inR xs.length i) (hs : PlainIx b) : E G C (.Subscript a b pos) Γ O (f (nth xs i)) :=
  e_ixL (by rw [atI_map, atI_nth hi]; rfl) ha hb hs
theorem e_nthT [Inhabited α] {xs : List α} {i : Int} (ha : E G C a Γ O (dTup G.K (xs.map f))) (hb : E G C b Γ O (dI i)) (hi : inR xs.length i) (hs : PlainIx b) : E G C (.Subscript a b pos) Γ O (f (nth xs i)) :=
  e_ixT (by rw [atI_map, atI_nth hi]; rfl) ha hb hs
def signAt (z : Str) (i : Int) : Str := ⟨#[nth z.cps.toList i]⟩
theorem nth_mem {α : Type} [Inhabited α] {xs : List α} {i : Int} (h : inR xs.length i) : nth xs i ∈ xs := by
  have e := atI_nth h
  unfold atI at e
  cases q : ixN xs.length i with
  | none => rw [q] at e; cases e
  | some j => rw [q] at e; exact List.mem_of_getElem? e
theorem okS_signAt {z : Str} {i : Int} (h : okS z) (hi : inR z.length i) : okS (signAt z i) := okS_sign h (nth_mem (by rw [Array.length_toList]; exact hi))
theorem okS_cut {z : Str} {i j : Option Int} (h : okS z) : okS (cutS z i j) := by
  refine ⟨strOk_iff.mpr fun c hc => ?_, Nat.le_trans (cutS_length z i j) h.2⟩
  unfold cutS at hc
  have hc2 : c ∈ (z.cps.toList.drop (HT.sIx z.length 0 i)).take (HT.sIx z.length z.length j - HT.sIx z.length 0 i) := hc
  exact strOk_iff.mp h.1 c (List.mem_of_mem_drop (List.mem_of_mem_take hc2))
theorem e_ixS {z : Str} {i : Int} (ha : E G C a Γ O (dS z)) (hb : E G C b Γ O (dI i)) (hi : inR z.length i) (hs : PlainIx b) : E G C (.Subscript a b pos) Γ O (dS (signAt z i)) :=
  e_ix (r := rIxS) (da := dS z) (db := dI i) (fun X c => ix_str) (fun F H v u hh h1 h2 Q q => ⟨z, i, nth z.cps.toList i, h1.1, h2, h1.2.2, atI_nth (by rw [Array.length_toList]; exact hi), q F H _ (Gw.refl F) hh ⟨rfl, okS_signAt h1.2 hi⟩⟩) ha hb hs
theorem en_sl {lo hi : Option Expr} {i j : Option Int} (ha : E G C a Γ O (dLst G.K ds)) (hl : EO G C lo Γ O i) (hh : EO G C hi Γ O j) : EN G C (.Subscript a (.Slice lo hi none p2) pos) Γ O (oLst (cut ds i j)) := .mk fun X c F σ H h0 Q q => by
  obtain ⟨tl, pl, ql⟩ := hl.run X c
  obtain ⟨th, ph, qh⟩ := hh.run X c
  refine we_of (pe_slice sl_list pe_can pl ph) (ha.run X c F σ H h0 _ fun F1 H1 v e1 h1 d1 => ?_)
  refine ql F1 σ H1 h1 _ fun F2 H2 e2 h2 => qh F2 σ H2 h2 _ fun F3 H3 e3 h3 => ?_
  obtain ⟨p, vs, rfl, hs, ha⟩ := (dLst G.K ds).mono (e2.trans e3) d1
  exact ⟨p, vs, rfl, by rw [c.K]; exact gw_l h3.ho.ex hs.sq, fun r hr => q F3 _ r ((e1.trans e2).trans e3) ⟨h3.fr, h3.ho.own hr ⟨_, rfl, AllD.cut i j ha⟩⟩⟩
theorem e_slS {z : Str} {lo hi : Option Expr} {i j : Option Int} (ha : E G C a Γ O (dS z)) (hl : EO G C lo Γ O i) (hh : EO G C hi Γ O j) : E G C (.Subscript a (.Slice lo hi none p2) pos) Γ O (dS (cutS z i j)) := .mk fun X c F σ H h0 Q q => by
  obtain ⟨tl, pl, ql⟩ := hl.run X c
  obtain ⟨th, ph, qh⟩ := hh.run X c
  refine we_of (pe_slice sl_str pe_can pl ph) (ha.run X c F σ H h0 _ fun F1 H1 v e1 h1 d1 => ?_)
  refine ql F1 σ H1 h1 _ fun F2 H2 e2 h2 => qh F2 σ H2 h2 _ fun F3 H3 e3 h3 => ?_
  exact ⟨z, d1.1, d1.2.2, q F3 H3 _ ((e1.trans e2).trans e3) h3 ⟨rfl, okS_cut d1.2⟩⟩
theorem en_cut {xs : List α} {lo hi : Option Expr} {i j : Option Int} (ha : E G C a Γ O (dLst G.K (xs.map f))) (hl : EO G C lo Γ O i) (hh : EO G C hi Γ O j) : EN G C (.Subscript a (.Slice lo hi none p2) pos) Γ O (oLst ((cut xs i j).map f)) := by
  rw [← cut_map]; exact en_sl ha hl hh
def rCatL (K : PySem.W.Frag) : R2 := fun x y H Q => ∃ l b xs zs, x = .ref l ∧ y = .ref b ∧ LsA K H l xs ∧ LsA K H b zs ∧ xs.length + zs.length ≤ sizeLine ∧ ∀ p, H p = none → Q (.ref p) (upd H p (.lst (xs ++ zs)))
theorem op_catL {X : Cx} : OpR X (binaryOp .Add) (rCatL X.K) := by
  intro pins s σ H x y v u Q I rx ry h
  obtain ⟨l, b, xs, zs, rfl, rfl, h1, h2, hz, q⟩ := h
  cases rx
  cases ry
  obtain ⟨its, n, r, e, _⟩ := h1.get I
  obtain ⟨its2, n2, r2, e2, _⟩ := h2.get I
  have l1 := r.length
  have l2 := r2.length
  refine PySem.P.add_list e e2 ?_ (by rw [List.size_toArray, List.size_toArray]; omega)
  have ea : its.toArray ++ its2.toArray = (its ++ its2).toArray := by simp
  rw [ea]
  exact ⟨.ref _, _, I.lnew (t' := s.toks) (r.append r2) (by rw [List.length_append]; omega), rfl, q _ I.fresh⟩
theorem en_catD {ds es : List D} (ha : E G C a Γ O (dLst G.K ds)) (hb : E G C b Γ O (dLst G.K es)) (hl : ds.length + es.length ≤ sizeLine) : EN G C (.BinOp a .Add b pos) Γ O (oLst (ds ++ es)) := .mk fun X c F σ H hh Q q => by
  refine we_of (pe_op op_catL pe_can pe_can) (ha.run X c F σ H hh _ fun F1 H1 v e1 h1 d1 => ?_)
  refine hb.run X c F1 σ H1 h1 _ fun F2 H2 u e2 h2 d2 => ?_
  obtain ⟨p, vs, rfl, hs, h3⟩ := (dLst G.K ds).mono e2 d1
  obtain ⟨p', us, rfl, hs', h4⟩ := d2
  refine ⟨p, p', vs, us, rfl, rfl, by rw [c.K]; exact hs.mono h2.ho.ex, by rw [c.K]; exact hs'.mono h2.ho.ex, by rw [AllD.length h3, AllD.length h4]; exact hl, fun r hr => ?_⟩
  exact q F2 _ r (e1.trans e2) ⟨h2.fr, h2.ho.own hr ⟨_, rfl, AllD.append h3 h4⟩⟩
theorem en_cat {xs ys : List α} (ha : E G C a Γ O (dLst G.K (xs.map f))) (hb : E G C b Γ O (dLst G.K (ys.map f))) (hl : xs.length + ys.length ≤ sizeLine) : EN G C (.BinOp a .Add b pos) Γ O (oLst ((xs ++ ys).map f)) := by
  rw [List.map_append]
  exact en_catD ha hb (by rw [List.length_map, List.length_map]; exact hl)
theorem c_inS {w : V} {xs : List V} (h1 : flatV w = true) (h2 : xs.all flatV = true) : CmpR G C .In O (dV w) (dLst G.K (xs.map dV)) (inV w xs) := cmp_of (fun X c => c.K ▸ op_in_seq) fun F H v u hh e1 h Q q => by
  obtain ⟨p, vs, rfl, hs, ha⟩ := h
  have ev := AllD.dV ha
  subst ev
  cases e1
  exact ⟨p, vs, rfl, .inl (gw_l hh.ex hs.sq), h1, h2, q F H _ (Gw.refl F) hh rfl⟩
theorem c_ninS {w : V} {xs : List V} (h1 : flatV w = true) (h2 : xs.all flatV = true) : CmpR G C .NotIn O (dV w) (dLst G.K (xs.map dV)) (!inV w xs) := cmp_of (fun X c => c.K ▸ op_notIn_seq) fun F H v u hh e1 h Q q => by
  obtain ⟨p, vs, rfl, hs, ha⟩ := h
  have ev := AllD.dV ha
  subst ev
  cases e1
  exact ⟨p, vs, rfl, .inl (gw_l hh.ex hs.sq), h1, h2, q F H _ (Gw.refl F) hh rfl⟩
theorem c_inT {w : V} {xs : List V} (h1 : flatV w = true) (h2 : xs.all flatV = true) : CmpR G C .In O (dV w) (dTup G.K (xs.map dV)) (inV w xs) := cmp_of (fun X c => c.K ▸ op_in_seq) fun F H v u hh e1 h Q q => by
  obtain ⟨p, vs, rfl, hs, ha⟩ := h
  have ev := AllD.dV ha
  subst ev
  cases e1
  exact ⟨p, vs, rfl, .inr (gw_t hh.ex hs), h1, h2, q F H _ (Gw.refl F) hh rfl⟩
theorem c_ninSign {c : Nat} {z : Str} : CmpR G C .NotIn O (dS ⟨#[c]⟩) (dS z) (!decide (c ∈ z.cps.toList)) := cmp_of (fun _ _ => op_notIn_sign) fun F H v u hh e1 e2 Q q => ⟨c, z, e1.1, e2.1, q F H _ (Gw.refl F) hh rfl⟩
theorem e_callB {id : String} (hc : CalR G C (.builtin id) O ds d) (g : Glo C x) (hm : G.mg x = none) (hv : bootBuiltins x = some (.builtin id)) (ha : A G C (e :: es) Γ O ds) (hs : ∀ env, starEach (e :: es) env = (false, eval e env) :: starEach es env) : E G C (.Call (.Name x p1) (e :: es) [] pos) Γ O d := .mk fun X c F σ H hh Q q => by
  obtain ⟨r, hr, hd⟩ := hc.ex X c
  refine we_of (pe_callB hr (c.gl g) (by rw [c.mg]; exact hm) hv pa_can g.2.2 g.2.1 (hs X.env) ?_) (ha.run X c F σ H hh _ fun F1 H1 vs e1 h1 d1 => hd F1 H1 vs h1.ho d1 _ fun F2 H2 z e2 h2 d2 => q F2 H2 z (e1.trans e2) (h1.mono e2 h2) d2)
  have a := ha.bt pos X.env
  rw [hs] at a
  unfold backTo at a ⊢
  rw [List.map_cons, List.any_cons] at a
  exact (Bool.or_eq_false_iff.mp a).2
theorem e_callT {T : String} (hc : CalR G C (.type T) O ds d) (g : Glo C x) (hm : G.mg x = none) (hv : bootBuiltins x = some (.type T)) (ha : A G C (e :: es) Γ O ds) (hs : ∀ env, starEach (e :: es) env = (false, eval e env) :: starEach es env) : E G C (.Call (.Name x p1) (e :: es) [] pos) Γ O d := .mk fun X c F σ H hh Q q => by
  obtain ⟨r, hr, hd⟩ := hc.ex X c
  refine we_of (pe_callTy hr (c.gl g) (by rw [c.mg]; exact hm) hv pa_can g.2.2 g.2.1 (hs X.env) ?_) (ha.run X c F σ H hh _ fun F1 H1 vs e1 h1 d1 => hd F1 H1 vs h1.ho d1 _ fun F2 H2 z e2 h2 d2 => q F2 H2 z (e1.trans e2) (h1.mono e2 h2) d2)
  have a := ha.bt pos X.env
  rw [hs] at a
  unfold backTo at a ⊢
  rw [List.map_cons, List.any_cons] at a
  exact (Bool.or_eq_false_iff.mp a).2
theorem en_callT {T : String} {od : OD} (hc : CalN G C (.type T) O ds od) (g : Glo C x) (hm : G.mg x = none) (hv : bootBuiltins x = some (.type T)) (ha : A G C (e :: es) Γ O ds) (hs : ∀ env, starEach (e :: es) env = (false, eval e env) :: starEach es env) : EN G C (.Call (.Name x p1) (e :: es) [] pos) Γ O od := .mk fun X c F σ H hh Q q => by
  obtain ⟨r, hr, hd⟩ := hc.ex X c
  refine we_of (pe_callTy hr (c.gl g) (by rw [c.mg]; exact hm) hv pa_can g.2.2 g.2.1 (hs X.env) ?_) (ha.run X c F σ H hh _ fun F1 H1 vs e1 h1 d1 => hd F1 H1 vs h1.ho d1 _ fun F2 H2 z e2 h2 => q F2 H2 z (e1.trans e2) ⟨h1.fr.mono e2, h2⟩)
  have a := ha.bt pos X.env
  rw [hs] at a
  unfold backTo at a ⊢
  rw [List.map_cons, List.any_cons] at a
  exact (Bool.or_eq_false_iff.mp a).2
theorem all1 {F : Hp} {vs : List V} (h : AllD F [d] vs) : ∃ v, vs = [v] ∧ d.ok F v := by
  match vs, h with
  | [v], h => exact ⟨v, rfl, h.1⟩
  | [], h => exact h.elim
  | _ :: _ :: _, h => exact h.2.elim
theorem all2 {F : Hp} {vs : List V} (h : AllD F [d, da] vs) : ∃ v u, vs = [v, u] ∧ d.ok F v ∧ da.ok F u := by
  match vs, h with
  | [v, u], h => exact ⟨v, u, rfl, h.1, h.2.1⟩
  | [], h => exact h.elim
  | [_], h => exact h.2.elim
  | _ :: _ :: _ :: _, h => exact h.2.2.elim
theorem k_lenL : CalR G C (.builtin "len") O [dLst G.K ds] (dI ds.length) := ⟨fun X c => ⟨_, call_len_seq, fun F H vs hh h Q q => by
  obtain ⟨v, rfl, p, us, rfl, hs, ha⟩ := all1 h
  refine ⟨p, us, rfl, .inl (by rw [c.K]; exact gw_l hh.ex hs.sq), ?_⟩
  rw [AllD.length ha]
  exact q F H _ (Gw.refl F) hh rfl⟩⟩
theorem k_lenT : CalR G C (.builtin "len") O [dTup G.K ds] (dI ds.length) := ⟨fun X c => ⟨_, call_len_seq, fun F H vs hh h Q q => by
  obtain ⟨v, rfl, p, us, rfl, hs, ha⟩ := all1 h
  refine ⟨p, us, rfl, .inr (by rw [c.K]; exact gw_t hh.ex hs), ?_⟩
  rw [AllD.length ha]
  exact q F H _ (Gw.refl F) hh rfl⟩⟩
theorem k_lenO {k : Nat} {p : Addr} (hk : O[k]? = some (p, oLst ds)) : CalR G C (.builtin "len") O [dP p] (dI ds.length) := ⟨fun X c => ⟨_, call_len_seq, fun F H vs hh h Q q => by
  obtain ⟨v, rfl, hv⟩ := all1 h
  obtain ⟨_, o, hp, us, rfl, ha⟩ := hh.at hk
  refine ⟨p, us, by rw [show v = .ref p from hv], .inl (SqL.of hp), ?_⟩
  rw [AllD.length ha]
  exact q F H _ (Gw.refl F) hh rfl⟩⟩
theorem k_lenS {z : Str} : CalR G C (.builtin "len") O [dS z] (dI z.length) := ⟨fun X c => ⟨_, call_len_str, fun F H vs hh h Q q => by
  obtain ⟨v, rfl, hv⟩ := all1 h
  exact ⟨z, by rw [hv.1], hv.2.2, q F H _ (Gw.refl F) hh rfl⟩⟩⟩
theorem k_strI {i : Int} (hi : i.natAbs.log2 < 1920) (ho : okS (toString i)) : CalR G C (.type "str") O [dI i] (dS (toString i)) := ⟨fun X c => ⟨_, call_str_int, fun F H vs hh h Q q => by
  obtain ⟨v, rfl, h1⟩ := all1 h
  exact ⟨i, by rw [show v = .int i from h1], hi, q F H _ (Gw.refl F) hh ⟨rfl, ho⟩⟩⟩⟩
theorem k_listL : CalN G C (.type "list") O [dLst G.K ds] (oLst ds) := ⟨fun X c => ⟨_, call_list_of, fun F H vs hh h Q q => by
  obtain ⟨v, rfl, p, us, rfl, hs, ha⟩ := all1 h
  exact ⟨p, us, rfl, .inl (by rw [c.K]; exact gw_l hh.ex hs.sq), fun l hl => q F _ l (Gw.refl F) (hh.own hl ⟨us, rfl, ha⟩)⟩⟩⟩
theorem k_tupL : CalR G C (.type "tuple") O [dLst G.K ds] (dTup G.K ds) := ⟨fun X c => ⟨_, call_tuple_of, fun F H vs hh h Q q => by
  obtain ⟨v, rfl, p, us, rfl, hs, ha⟩ := all1 h
  refine ⟨p, us, rfl, .inl ⟨by rw [c.K]; exact gw_l hh.ex hs.sq, fun l hl => ?_⟩⟩
  obtain ⟨h2, e2⟩ := hh.laid (o := .tup us) hl
  exact q _ _ _ e2 h2 ⟨l, us, rfl, .inl (.inl upd_same), AllD.mono e2 ha⟩⟩⟩
def IsTy (K : PySem.W.Frag) (d : D) (t : String) : Prop := ∀ F H v, Gw F H → d.ok F v → TyX K H v (.type t)
theorem ty_int {K : PySem.W.Frag} {i : Int} : IsTy K (dI i) "int" := fun F H v _ h => (show v = .int i from h) ▸ .base (.int i)
theorem ty_str {K : PySem.W.Frag} {i : Str} : IsTy K (dS i) "str" := fun F H v _ h => h.1 ▸ .base (.str i)
theorem ty_bool {K : PySem.W.Frag} {i : Bool} : IsTy K (dB i) "bool" := fun F H v _ h => (show v = .bl i from h) ▸ .base (.bl i)
theorem ty_none {K : PySem.W.Frag} : IsTy K dN "NoneType" := fun F H v _ h => (show v = .non from h) ▸ .base .non
theorem ty_lst {K : PySem.W.Frag} {ds : List D} : IsTy K (dLst K ds) "list" := fun F H v ex ⟨a, vs, h1, h2, h3⟩ => by
  subst h1
  rcases h2 with (h2 | ⟨o, h2⟩) | ⟨its, n, h2, _⟩
  · exact .base (.lst (ex _ _ h2))
  · exact .base (.frz (ex _ _ h2))
  · exact .kList h2 rfl
theorem ty_tup {K : PySem.W.Frag} {ds : List D} : IsTy K (dTup K ds) "tuple" := fun F H v ex ⟨a, vs, h1, h2, h3⟩ => by
  subst h1
  rcases h2 with (h2 | ⟨o, h2⟩) | ⟨o, its, n, h2, hc, _⟩
  · exact .base (.tup (ex _ _ h2))
  · exact .fTuple (ex _ _ h2)
  · exact .kTuple h2 hc
theorem k_isi {t n : String} {b : Bool} (ht : IsTy G.K d t) (hb : kitB t n = some b) : CalR G C (.builtin "isinstance") O [d, dV (.ty n)] (dB b) := ⟨fun X c => ⟨_, call_isi, fun F H vs hh h Q q => by
  obtain ⟨v, u, rfl, h1, h2⟩ := all2 h
  exact ⟨v, u, _, _, b, rfl, (show u = .ty n from h2) ▸ .ty n, by rw [c.K]; exact ht F H v hh.ex h1, kit_ty hb, q F H _ (Gw.refl F) hh rfl⟩⟩⟩
theorem e_tyname {n : String} (g : Glo C x) (hm : G.mg x = none) (hv : bootBuiltins x = some (.type n)) : E G C (.Name x pos) Γ O (dV (.ty n)) := .mk fun X c F σ H hh Q q =>
  we_of (pe_bltn (v := .ty n) (c.gl g) (by rw [c.mg]; exact hm) hv rfl g.2.2 g.2.1) (q F H _ (Gw.refl F) hh rfl)
end
end Kn
namespace Kn
open PySem PySem.Spec L2
abbrev SpecD := List D → Own → RK → Prop
def spD (S : SpecD) : Sp := fun vs H Q E => ∃ ds O rk F, S ds O rk ∧ HoldO F O H ∧ AllD F ds vs ∧ (∀ v H', rk.ok F v H' → Q v H') ∧ ∀ c d H', rk.xo F c d H' → E c d H'
structure Callee (G : Cfg) (k : Nat) (x : Str) (S : SpecD) : Prop where
  ex : ∃ (f : Addr) (fd : FuncData) (ps : List Str), FnOk G.P G.w G.K G.mg G.base (CX G.P G.w) k f fd ps (spD S) ∧ G.mg x = some (.ref f) ∧ PySem.W.keepIn G.K (.ref f) = true ∧ Binds G.K fd ps []
def fnV (d : R → D) (O : Own) : Ek Empty R := ⟨fun e => e.elim, fun r => RK.val (d r) O, fun _ => XD.no⟩
def fnN (od : R → OD) (O : Own) : Ek Empty R := ⟨fun e => e.elim, fun r => RK.new (od r) O, fun _ => XD.no⟩
def frame0 (N : List Str) (ds : List D) : Fr := ds.map some ++ List.replicate (N.length - ds.length) none
theorem frame_start {F : Hp} {N : List Str} : ∀ {ds : List D} {vs : List V}, AllD F ds vs → FrOk F (frame0 N ds) (L2.start N vs) := fun {ds vs} h => by
  have hl := AllD.length h
  refine ⟨?_, fun i d e => ?_⟩
  · unfold frame0 L2.start
    rw [List.length_append, List.length_append, List.length_map, List.length_map, List.length_replicate, List.length_replicate, hl]
  · unfold frame0 at e
    by_cases hi : i < ds.length
    · rw [List.getElem?_append_left (by rw [List.length_map]; exact hi), List.getElem?_map] at e
      cases q : ds[i]? with
      | none => rw [q] at e; cases e
      | some d' =>
        rw [q] at e
        cases e
        obtain ⟨v, hv, dv⟩ := AllD.get h q
        refine ⟨v, ?_, dv⟩
        unfold L2.start
        rw [List.getElem?_append_left (by rw [List.length_map, hl]; exact hi), List.getElem?_map, hv]
        rfl
    · rw [List.getElem?_append_right (by rw [List.length_map]; omega), List.getElem?_replicate] at e
      split at e <;> cases e
theorem inC_of {CX : CXT} {P : Program} {w : World} {K : PySem.W.Frag} {mg : Str → Option Value} {base : Heap} {N : List Str} {qual : Str} {scope : Scope} {f : Addr} {cd : Value} {A : Around} {outer : List Env} {s : Shared} {H : Hp} {E : XK} {k : Nat}
    (hr : Room k (A.deeper (PyProof.Rows.envOfC qual scope s.heap.objs.size f cd))) : InC ⟨P, w, K, mg, base⟩ ⟨k, N, scope, true, true⟩ (cxOf CX P w K mg base N qual scope f cd A outer s H E) :=
  ⟨rfl, rfl, rfl, rfl, rfl, rfl, rfl, fun _ => rfl, hr.un, hr.dp, fun _ => hr.hd, fun _ => ⟨rfl, rfl⟩, passes_of rfl, fun _ _ => rfl⟩
theorem fn_ok {G : Cfg} {x qual : Str} {params : Arguments} {body : List Stmt} {scope : Scope} {f : Addr} {fd : FuncData} {N ps : List Str} {k : Nat} {S : SpecD} (F : FunD G.K x qual params body scope [] [] f fd) (sc : FnScope N ps scope)
    (len : ∀ ds O rk, S ds O rk → ds.length = ps.length)
    (hb : ∀ ds O rk, S ds O rk → ∃ (S1 R : Type) (ek : Ek S1 R) (r : R), SS G ⟨k, N, scope, true, true⟩ body (frame0 N ds) O ek (.rt r) ∧ ek.rs r = rk) : FnOk G.P G.w G.K G.mg G.base (CX G.P G.w) (k + 1) f fd ps (spD S) := by
  obtain ⟨P, w, K, mg, base⟩ := G
  refine F.ok sc (fun vs H Q E h => ?_) (fun cdv A outer s H vs Q E hr h => ?_)
  · obtain ⟨ds, O, rk, F0, hS, hO, ha, _⟩ := h
    rw [AllD.length ha]
    exact len ds O rk hS
  · obtain ⟨ds, O, rk, F0, hS, hO, ha, hq, hx⟩ := h
    obtain ⟨S1, R, ek, r, hss, hrk⟩ := hb ds O rk hS
    refine ⟨_, pss_can, hss.run _ (inC_of hr) _ (takes_of rfl rfl rfl rfl) F0 _ H ⟨frame_start ha, hO⟩ _ ⟨fun v H' hv => ?_, fun c d σ H' hv => ?_⟩⟩
    · rw [hrk] at hv
      exact hq v H' hv
    · rw [hrk] at hv
      exact hx c d H' hv
theorem callee_of {G : Cfg} {x : Str} {k : Nat} {S : SpecD} {f : Addr} {fd : FuncData} {ps : List Str} (F : FnOk G.P G.w G.K G.mg G.base (CX G.P G.w) k f fd ps (spD S)) (g : G.mg x = some (.ref f)) (kp : PySem.W.keepIn G.K (.ref f) = true) (b : Binds G.K fd ps []) : Callee G k x S := ⟨f, fd, ps, F, g, kp, b⟩
theorem Callee.imp {G : Cfg} {x : Str} {k : Nat} {S S' : SpecD} (c : Callee G k x S) (h : ∀ ds O rk, S' ds O rk → S ds O rk) : Callee G k x S' := by
  obtain ⟨f, fd, ps, F, g, kp, b⟩ := c.ex
  exact ⟨f, fd, ps, F.imp fun vs H Q E ⟨ds, O, rk, F0, q, r⟩ => ⟨ds, O, rk, F0, h _ _ _ q, r⟩, g, kp, b⟩
section
variable {G : Cfg} {C : Sc} {Γ : Fr} {O : Own} {e a b c : Expr} {es : List Expr} {d da db dc : D} {ds : List D} {od : OD} {pos p1 p2 p3 : Pos} {x : Str} {α β : Type} {S : SpecD} {k : Nat}
theorem we_call [Calm C] {rk : RK} (cal : Callee G k x S) (hk : k ≤ C.k) (g : Glo C x) (hS : S ds O rk) (ha : A G C (e :: es) Γ O ds) (hs : ∀ env, starEach (e :: es) env = (false, eval e env) :: starEach es env) {X : Cx} (c : InC G C X) {F : Hp} {σ : L2.St} {H : Hp} (hh : Hold F Γ O σ H) {Q : VK} (q : ∀ F1 v H', Gw F F1 → FrOk F1 Γ σ → rk.ok F1 v H' → Q v H') (hx : rk.NoX := by exact fun _ _ _ _ z => z) : WE X (.Call (.Name x p1) (e :: es) [] pos) σ H Q := by
  obtain ⟨f, fd, ps, Fn, gx, kp, bi⟩ := cal.ex
  have Fn' : FnOk X.prog X.w X.K X.mg X.base (CX X.prog X.w) k f fd ps (spD S) := by rw [c.p, c.w, c.K, c.mg, c.base]; exact Fn
  refine we_of (pe_call (dvs := []) (E := E0) Fn' (c.room.mono hk) (c.gl g) (by rw [c.mg]; exact gx) (by rw [c.K]; exact kp) (by rw [c.K]; exact bi) .nil passL pa_can g.2.1 (hs X.env) ?_) (ha.run X c F σ H hh _ fun F1 H1 vs e1 h1 d1 => ?_)
  · have a := ha.bt pos X.env
    rw [hs] at a
    unfold backTo at a ⊢
    rw [List.map_cons, List.any_cons] at a
    exact (Bool.or_eq_false_iff.mp a).2
  · rw [List.append_nil]
    exact ⟨ds, O, rk, F1, hS, h1.ho, d1, fun v H' hv => q F1 v H' e1 h1.fr hv, fun _ _ _ z => hx _ _ _ _ z⟩
theorem e_call [Calm C] (cal : Callee G k x S) (hk : k ≤ C.k) (g : Glo C x) (hS : S ds O (RK.val d O)) (ha : A G C (e :: es) Γ O ds) (hs : ∀ env, starEach (e :: es) env = (false, eval e env) :: starEach es env) : E G C (.Call (.Name x p1) (e :: es) [] pos) Γ O d := .mk fun X c F σ H hh Q q =>
  we_call cal hk g hS ha hs c hh fun F1 v H' e1 fr ⟨F2, e2, h2, d2⟩ => q F2 H' v (e1.trans e2) ⟨fr.mono e2, h2⟩ d2
theorem en_call [Calm C] (cal : Callee G k x S) (hk : k ≤ C.k) (g : Glo C x) (hS : S ds O (RK.new od O)) (ha : A G C (e :: es) Γ O ds) (hs : ∀ env, starEach (e :: es) env = (false, eval e env) :: starEach es env) : EN G C (.Call (.Name x p1) (e :: es) [] pos) Γ O od := .mk fun X c F σ H hh Q q =>
  we_call cal hk g hS ha hs c hh fun F1 v H' e1 fr ⟨F2, p, e2, hv, h2⟩ => by subst hv; exact q F2 H' p (e1.trans e2) ⟨fr.mono e2, h2⟩
def wipeF (Γ : Fr) : List Nat → Fr
  | [] => Γ
  | v :: vs => (wipeF Γ vs).set v none
theorem wipe_fr {F : Hp} {σ : L2.St} (h : FrOk F Γ σ) : ∀ vs : List Nat, FrOk F (wipeF Γ vs) (wipe σ vs)
  | [] => h
  | v :: vs => by
    obtain ⟨h1, h2⟩ := wipe_fr h vs
    refine ⟨by unfold wipeF wipe; rw [List.length_set, List.length_set]; exact h1, fun i d e => ?_⟩
    unfold wipeF at e
    unfold wipe
    by_cases hi : v = i
    · subst hi
      by_cases hv : v < (wipeF Γ vs).length
      · rw [List.getElem?_set_self hv] at e; cases e
      · rw [List.getElem?_eq_none (by rw [List.length_set]; omega)] at e; cases e
    · rw [List.getElem?_set_ne hi] at e ⊢
      exact h2 i d e
theorem wipe_at : ∀ (σ : L2.St) (vs : List Nat) (j : Nat), (wipe σ vs)[j]? = if j ∈ vs then (σ[j]?).map (fun _ => none) else σ[j]?
  | σ, [], j => by rw [if_neg (by simp)]; rfl
  | σ, v :: vs, j => by
    unfold wipe
    have ih := wipe_at σ vs j
    by_cases hv : v = j
    · subst hv
      rw [if_pos List.mem_cons_self]
      by_cases hl : v < (wipe σ vs).length
      · rw [List.getElem?_set_self hl]
        rw [wipe_length] at hl
        rw [List.getElem?_eq_getElem hl]
        rfl
      · rw [List.getElem?_eq_none (by rw [List.length_set]; omega)]
        rw [wipe_length] at hl
        rw [List.getElem?_eq_none (by omega)]
        rfl
    · rw [List.getElem?_set_ne hv, ih]
      by_cases hm : j ∈ vs
      · rw [if_pos hm, if_pos (List.mem_cons_of_mem _ hm)]
      · rw [if_neg hm, if_neg (fun z => (List.mem_cons.mp z).elim (fun e => hv e.symm) hm)]
theorem But.wipe {is vs : List Nat} {σ σ' : L2.St} (b : But is (wipe σ vs) σ') (h : ∀ i ∈ is, i ∈ vs) : L2.wipe σ' vs = L2.wipe σ vs := by
  refine List.ext_getElem? fun j => ?_
  have hl : σ'.length = σ.length := by rw [b.1, wipe_length]
  rw [wipe_at, wipe_at]
  by_cases hj : j ∈ vs
  · rw [if_pos hj, if_pos hj]
    by_cases hlt : j < σ.length
    · rw [List.getElem?_eq_getElem hlt, List.getElem?_eq_getElem (by omega)]
      rfl
    · rw [List.getElem?_eq_none (by omega), List.getElem?_eq_none (by omega)]
  · rw [if_neg hj, if_neg hj, b.2 j fun z => hj (h j z), wipe_at, if_neg hj]
abbrev Sc.blk (C : Sc) (scope : Scope) : Sc := ⟨C.k, C.N, relS scope C.sc, false, C.calm⟩
instance {C : Sc} {scope : Scope} [h : Calm C] : Calm (C.blk scope) := ⟨h.c⟩
theorem InC.blk {X : Cx} (c : InC G C X) (s : Shared) (H : Hp) (scope : Scope) (cl : List (Str × Addr)) (A : Addr) (fp : List Addr) : InC G (C.blk scope) (X.blk s H scope (compEnvC scope cl A X.env) fp) :=
  ⟨c.p, c.w, c.K, c.mg, c.base, c.n, (by show relS scope X.env.scope = relS scope C.sc; rw [c.sc]), c.calm, c.un, c.dp, c.hdl, (fun h => by cases h), PassesOwn.never, (fun h => by cases h)⟩
structure TsJ (G : Cfg) (C : Sc) (ifs : List Expr) (Γ : Fr) (O : Own) (b : Bool) : Prop where
  run : ∀ X, InC G C X → ∀ (F : Hp) (σ : L2.St) (H : Hp), Hold F Γ O σ H → ∀ Q : Bool → Hp → Prop, (∀ F' H', Gw F F' → Hold F' Γ O σ H' → Q b H') → ∀ (pins : List (Addr × Obj)) (s : Shared), Inv X pins σ H s →
  wpAny (model X.prog X.w) X.A (forIn ifs true fun c r =>
    if r = true then do
      let ok ← isTrue c X.env (eval c X.env)
      pure (ForInStep.yield ok)
    else pure (ForInStep.yield r)) (TP X pins σ Q) X.xe s
def WTs (X : Cx) (ifs : List Expr) : TT := fun σ H Q => ∀ (pins : List (Addr × Obj)) (s : Shared), Inv X pins σ H s →
  wpAny (model X.prog X.w) X.A (forIn ifs true fun c r =>
    if r = true then do
      let ok ← isTrue c X.env (eval c X.env)
      pure (ForInStep.yield ok)
    else pure (ForInStep.yield r)) (TP X pins σ Q) X.xe s
theorem ts_nil : TsJ G C [] Γ O true := .mk fun X c F σ H hh Q q pins s I => pts_nil.run pins s σ H Q I (q F H (Gw.refl F) hh)
def BE (X : Cx) (scope : Scope) (e : Expr) : TE := fun σ H Q => ∀ (s : Shared) (H0 : Hp) (A : Addr) (cl : List (Str × Addr)) (fp : List Addr), WE (X.blk s H0 scope (compEnvC scope cl A X.env) fp) e σ H Q
def BT (X : Cx) (scope : Scope) (ifs : List Expr) : TT := fun σ H Q => ∀ (s : Shared) (H0 : Hp) (A : Addr) (cl : List (Str × Addr)) (fp : List Addr), WTs (X.blk s H0 scope (compEnvC scope cl A X.env) fp) ifs σ H Q
def BG (X : Cx) (scope : Scope) (tg : Expr) : TG := fun v σ H Q => ∀ (s : Shared) (H0 : Hp) (A : Addr) (cl : List (Str × Addr)) (fp : List Addr), WG (X.blk s H0 scope (compEnvC scope cl A X.env) fp) tg v σ H Q
structure ENL (G : Cfg) (C : Sc) (e : Expr) (Γ : Fr) (O : Own) (od : OD) : Prop where
  run : ∀ X, InC G C X → ∃ t : TE, PE X e t ∧ (∀ (i : Nat) (y : Str) (py spos : Pos), X.N[i]? = some y → X.env.scope.names.lookup y = some .local → swapsWith e (some (.Name y py)) spos.line X.env = pure true → PS X (.Assign [.Name y py] e spos) (tAsg t (gName i))) ∧
    ∀ (F : Hp) (σ : L2.St) (H : Hp), Hold F Γ O σ H → ∀ Q : VK, (∀ F' H' p, Gw F F' → Hold F' Γ ((p, od) :: O) σ H' → Q (.ref p) H') → t σ H Q
theorem en_enl {e : Expr} {od : OD} (h : ENL G C e Γ O od) : EN G C e Γ O od := .mk fun X c F σ H hh Q q => by
  obtain ⟨t, h1, _, h3⟩ := h.run X c
  exact we_of h1 (h3 F σ H hh Q q)
theorem enl_lcG [Calm C] {df : α → D} {dg : β → D} {xs : List α} {pf : α → Bool} {g : α → β} {tg it elt : Expr} {ifs : List Expr} {scope : Scope} {own : List (Str × Nat)} {is : List Nat} {Γ2 : α → Fr} {P : Own → Prop} (nd : C.N.Nodup) (hi : EI G C tg it Γ O P (xs.map df)) (hP : ∀ q ac, P ((q, oLst ac) :: O)) (ok : BlkOk C.N C.sc scope own)
    (hg : ∀ x, TJ G (C.blk scope) tg (df x) (wipeF Γ (own.map (·.2))) (Γ2 x) is) (his : ∀ i ∈ is, i ∈ own.map (·.2)) (ht : ∀ x, x ∈ xs → ∀ q ac, TsJ G (C.blk scope) ifs (Γ2 x) ((q, oLst ac) :: O) (pf x))
    (he : ∀ x, x ∈ xs → pf x = true → ∀ q ac, E G (C.blk scope) elt (Γ2 x) ((q, oLst ac) :: O) (dg (g x))) (hl : xs.length < 16000000) (hs : ∀ env x, foldedSetIterable it env x = pure x) : ENL G C (.ListComp elt [⟨tg, it, ifs, 0⟩] scope pos) Γ O (oLst (((xs.filter pf).map g).map dg)) := .mk fun X c => by
  have nd' : X.N.Nodup := by rw [c.n]; exact nd
  have ok' : BlkOk X.N X.env.scope scope own := by rw [c.n, c.sc]; exact ok
  refine ⟨_, pe_lc (g := BG X scope tg) (tt := BT X scope ifs) (te := BE X scope elt) c.cm nd' pi_can ok' (fun s H0 A cl fp => ⟨fun pins s1 σ1 H1 v u Q1 I r h => h s H0 A cl fp pins s1 u I r⟩) (fun s H0 A cl fp => ⟨fun pins s1 σ1 H1 Q1 I h => h s H0 A cl fp pins s1 I⟩)
    (fun s H0 A cl fp => ⟨fun pins s1 σ1 H1 Q1 I h => h s H0 A cl fp pins s1 I⟩) (hs X.env), fun i y py spos h1 h2 h3 => ps_setLc c.cm nd' h1 h2 h3 pi_can ok' (fun s H0 A cl fp => ⟨fun pins s1 σ1 H1 v u Q1 I r h => h s H0 A cl fp pins s1 u I r⟩) (fun s H0 A cl fp => ⟨fun pins s1 σ1 H1 Q1 I h => h s H0 A cl fp pins s1 I⟩)
    (fun s H0 A cl fp => ⟨fun pins s1 σ1 H1 Q1 I h => h s H0 A cl fp pins s1 I⟩) (hs X.env), fun F σ H hh Q q => ?_⟩
  refine hi.run X c F σ H hh _ fun J F1 H1 e1 h1 fd => ?_
  intro Dl hD
  refine ⟨fun i mm H' => ∃ F', mm = xs.length - i ∧ i ≤ xs.length ∧ Gw F1 F' ∧ HoldO F' ((Dl, oLst ((((xs.take i).filter pf).map g).map dg)) :: O) H', ⟨xs.length, F1, rfl, Nat.zero_le _, Gw.refl _, h1.ho.own hD ⟨[], rfl, trivial⟩⟩, ?_⟩
  rintro i mm H' ⟨F', rfl, hil, e2, h2⟩
  by_cases hlt : i < xs.length
  · have hd : (xs.map df)[i]? = some (df xs[i]) := by rw [List.getElem?_map, List.getElem?_eq_getElem hlt]; rfl
    have hmem : xs[i] ∈ xs := List.getElem_mem hlt
    have itm := fd.item i _ hd F' _ H' (hP _ _) e2 h2
    have htake : xs.take (i + 1) = xs.take i ++ [xs[i]] := List.take_succ_eq_append_getElem hlt
    refine .inr ⟨itm.1, fun H3 => ∃ F3, Gw F1 F3 ∧ HoldO F3 ((Dl, oLst ((((xs.take (i + 1)).filter pf).map g).map dg)) :: O) H3, fun H3 ⟨F3, x3, h3⟩ => ⟨xs.length - (i + 1), by omega, F3, rfl, hlt, x3, h3⟩, fun x H3 hy => ?_⟩
    obtain ⟨F3, e3, h3, d3⟩ := itm.2 x H3 hy
    have fr3 : FrOk F3 (wipeF Γ (own.map (·.2))) (wipe σ (own.map (·.2))) := wipe_fr (h1.fr.mono (e2.trans e3)) _
    intro s H0 A cl fp
    refine (hg xs[i]).run _ (c.blk s H0 scope cl A fp) F3 _ _ H3 x ⟨fr3, h3⟩ d3 _ fun σ4 h4 b4 => ?_
    refine ⟨b4.wipe his, fun s' H0' A' cl' fp' => ?_⟩
    refine (ht xs[i] hmem _ _).run _ (c.blk s' H0' scope cl' A' fp') F3 σ4 H3 h4 _ fun F5 H5 e5 h5 => ?_
    cases hp : pf xs[i] with
    | false =>
      refine iteF ⟨F5, ((e2.trans e3).trans e5), ?_⟩
      have ea : (xs.take (i + 1)).filter pf = (xs.take i).filter pf := by rw [htake, List.filter_append, List.filter_cons, hp]; simp
      rw [ea]
      exact h5.ho
    | true =>
      refine iteT fun s6 H06 A6 cl6 fp6 => ?_
      refine (he xs[i] hmem hp _ _).run _ (c.blk s6 H06 scope cl6 A6 fp6) F5 σ4 H5 h5 _ fun F6 H6 v e6 h6 d6 => ?_
      obtain ⟨_, o, hq, vs, rfl, ha⟩ := h6.ho.at (k := 0) rfl
      refine ⟨vs, hq, ?_, F6, (((e2.trans e3).trans e5).trans e6), ?_⟩
      · rw [AllD.length ha, List.length_map, List.length_map]
        have l1 := List.length_filter_le pf (xs.take i)
        rw [List.length_take] at l1
        have : (sizeLine : Nat) = 16777216 := by rw [sizeLine_eq]
        omega
      · have ea : (xs.take (i + 1)).filter pf = (xs.take i).filter pf ++ [xs[i]] := by rw [htake, List.filter_append, List.filter_cons, hp]; rfl
        rw [ea, List.map_append, List.map_append]
        exact h6.ho.write (k := 0) rfl ⟨_, rfl, AllD.append ha ⟨d6, trivial⟩⟩
  · have hi' : i = xs.length := by omega
    subst hi'
    have a := fd.stop F' _ H' (hP _ _) e2 h2
    rw [List.length_map] at a
    refine .inl ⟨a, ?_⟩
    rw [List.take_length] at h2
    exact q F' H' Dl (e1.trans e2) ⟨h1.fr.mono e2, h2⟩
theorem enl_lc [Calm C] {df : α → D} {dg : β → D} {xs : List α} {g : α → β} {tg it elt : Expr} {scope : Scope} {own : List (Str × Nat)} {is : List Nat} {Γ2 : α → Fr} {P : Own → Prop} (nd : C.N.Nodup) (hi : EI G C tg it Γ O P (xs.map df)) (hP : ∀ q ac, P ((q, oLst ac) :: O)) (ok : BlkOk C.N C.sc scope own)
    (hg : ∀ x, TJ G (C.blk scope) tg (df x) (wipeF Γ (own.map (·.2))) (Γ2 x) is) (his : ∀ i ∈ is, i ∈ own.map (·.2))
    (he : ∀ x, x ∈ xs → ∀ q ac, E G (C.blk scope) elt (Γ2 x) ((q, oLst ac) :: O) (dg (g x))) (hl : xs.length < 16000000) (hs : ∀ env x, foldedSetIterable it env x = pure x) : ENL G C (.ListComp elt [⟨tg, it, [], 0⟩] scope pos) Γ O (oLst ((xs.map g).map dg)) := by
  have a := enl_lcG (G := G) (pos := pos) (pf := fun _ => true) nd hi hP ok hg his (fun x hx q ac => ts_nil) (fun x hx _ => he x hx) hl hs
  rw [List.filter_eq_self.mpr (fun _ _ => rfl)] at a
  exact a
theorem en_lc [Calm C] {df : α → D} {dg : β → D} {xs : List α} {g : α → β} {tg it elt : Expr} {scope : Scope} {own : List (Str × Nat)} {is : List Nat} {Γ2 : α → Fr} {P : Own → Prop} (nd : C.N.Nodup) (hi : EI G C tg it Γ O P (xs.map df)) (hP : ∀ q ac, P ((q, oLst ac) :: O)) (ok : BlkOk C.N C.sc scope own)
    (hg : ∀ x, TJ G (C.blk scope) tg (df x) (wipeF Γ (own.map (·.2))) (Γ2 x) is) (his : ∀ i ∈ is, i ∈ own.map (·.2))
    (he : ∀ x, x ∈ xs → ∀ q ac, E G (C.blk scope) elt (Γ2 x) ((q, oLst ac) :: O) (dg (g x))) (hl : xs.length < 16000000) (hs : ∀ env x, foldedSetIterable it env x = pure x) : EN G C (.ListComp elt [⟨tg, it, [], 0⟩] scope pos) Γ O (oLst ((xs.map g).map dg)) := en_enl (enl_lc nd hi hP ok hg his he hl hs)
structure SwL (C : Sc) (e : Expr) (x : Str) (py spos : Pos) : Prop where
  l : C.sc.names.lookup x = some .local
  sw : ∀ env : Env, env.scope = C.sc → swapsWith e (some (.Name x py)) spos.line env = pure true
theorem swL_of {elt : Expr} {gs : List Comprehension} {scope : Scope} {py spos pos : Pos} (h : (match C.sc.kind with
  | .function => true
  | _ => false) = true ∧ (match C.sc.names.lookup x with
  | some .local => true
  | _ => false) = true ∧ (py.line == pos.line) = true ∧ (scope.names.any fun (n, k) => n == x && (k == .local || k == .cell)) = false) : SwL C (.ListComp elt gs scope pos) x py spos := by
  obtain ⟨h1, h2, h3, h4⟩ := h
  have k1 : C.sc.kind = .function := by
    revert h1
    cases C.sc.kind <;> intro h <;> first | rfl | cases h
  have k2 : C.sc.names.lookup x = some .local := by
    revert h2
    cases C.sc.names.lookup x with
    | none => intro h; cases h
    | some k => cases k <;> intro h <;> first | rfl | cases h
  exact ⟨k2, fun env e => sw_true (by rw [e]; exact k1) (by rw [e]; exact k2) h3 h4⟩
section
variable {S R B' : Type} {kk : Ek S R} {oo : Out S R} {ss : List Stmt} {p1 : Pos} {e : Expr}
theorem ss_newLc {od : OD} {i : Nat} (l : Loca C i x) (sw : SwL C e x p1 pos) (h : ENL G C e Γ O od) (hr : ∀ p, SS G C ss (Γ.set i (some (dP p))) ((p, od) :: O) kk oo) : SS G C (.Assign [.Name x p1] e pos :: ss) Γ O kk oo := .mk fun X c W tk F σ H hh D m => by
  obtain ⟨t, _, h2, h3⟩ := h.run X c
  exact wss_of (pss_cons (h2 i x p1 pos (by rw [c.n]; exact l.n) (by rw [c.sc]; exact sw.l) (sw.sw X.env c.sc)) pss_can) (h3 F σ H hh _ fun F1 H1 p e1 h1 => (hr p).run X c W tk F1 _ H1 (Hold.set i h1 rfl) D (meet.mono e1 m))
end
end
section
variable {G : Cfg} {C : Sc} {Γ : Fr} {O : Own} {S1 R B : Type} {k : Ek S1 R} {o : Out S1 R} {e a b : Expr} {d : D} {ds : List D} {ss : List Stmt} {pos p1 p2 p3 p4 : Pos} {x : Str} {α : Type} {f : α → D} {p : Addr} {n : Nat}
theorem ss_app {xs : List α} {y : α} {g : List α → B} (ι : B → Out S1 R) (hk : O[n]? = some (p, oLst (xs.map f))) (ha : E G C a Γ O (dP p)) (h : E G C e Γ O (f y)) (hz : xs.length < 16000000) (hb : ∀ env, attributeBase a "append" env (eval a env) = eval a env) (hl : (p1.endLine == p2.line) = true) (hs : ∀ env, starEach [e] env = (false, eval e env) :: starEach [] env)
    (hr : ∀ ys, ys = xs ++ [y] → SS G C ss Γ (O.set n (p, oLst (ys.map f))) k (ι (g ys))) : SS G C (.Expr (.Call (.Attribute a "append" p1) [e] [] p2) pos :: ss) Γ O k (ι (lt (xs ++ [y]) g)) :=
  ss_cons (t := fun X => tDrop (tBM X.K "list" rAppend (WE X a) (tCons (WE X e) tNil))) (fun X c => ps_expr (pe_bm PySem.F.plainAttrs_list PySem.F.slot_list_append PySem.F.type_list_append mt_append pe_can (pa_cons pe_can pa_nil (hs X.env)) (hb X.env) (by rw [hs]; rfl) hl (hs X.env) rfl))
    fun X c W tk F σ H hh D m => by
      refine ha.run X c F σ H hh _ fun F1 H1 v e1 h1 d1 => ?_
      have d1' : v = .ref p := d1
      subst d1'
      obtain ⟨_, o, hp, vs, rfl, _⟩ := h1.ho.at hk
      refine ⟨.inl ⟨rfl, vs, SqL.of hp⟩, h.run X c F1 σ H1 h1 _ fun F2 H2 u e2 h2 d2 => ?_⟩
      obtain ⟨_, o2, hp2, us, rfl, hal⟩ := h2.ho.at hk
      refine ⟨p, us, u, rfl, rfl, hp2, ?_, ?_⟩
      · rw [AllD.length hal, List.length_map]
        have : (sizeLine : Nat) = 16777216 := by rw [sizeLine_eq]
        omega
      · refine (hr _ rfl).run X c W tk F2 σ _ ⟨h2.fr, h2.ho.write hk ⟨_, rfl, ?_⟩⟩ D (meet.mono (e1.trans e2) m)
        rw [List.map_append]
        exact AllD.append hal ⟨d2, trivial⟩
theorem ss_setL {xs : List α} {y : α} {i : Int} {g : List α → B} (ι : B → Out S1 R) (hk : O[n]? = some (p, oLst (xs.map f))) (ha : E G C a Γ O (dP p)) (hb : E G C b Γ O (dI i)) (h : E G C e Γ O (f y)) (h0 : 0 ≤ i ∧ i < xs.length)
    (hss : ∀ (env : Env), swapsWithSole [.Subscript a b p1] e pos.line env = pure false) (hw : ∀ env, swappedStores [.Subscript a b p1] e env = pure none)
    (hset : ∀ (env : Env) v, assign (.Subscript a b p1) env v = (do
      let ov ← holding [v] (eval a env)
      let iv ← holding [v, ov] (eval b env)
      standAt p1
      holding [v, ov, iv] (setItem ov iv v)
      release [v, ov, iv] []))
    (hr : ∀ ys, ys = xs.set i.toNat y → SS G C ss Γ (O.set n (p, oLst (ys.map f))) k (ι (g ys))) : SS G C (.Assign [.Subscript a b p1] e pos :: ss) Γ O k (ι (lt (xs.set i.toNat y) g)) :=
  ss_cons (t := fun X => tAsg (WE X e) (gSub (WE X a) (WE X b) rSetL)) (fun X c => ps_asg pe_can (pg_sub pe_can pe_can set_list (hset X.env)) (hss X.env) (hw X.env)) fun X c W tk F σ H hh D m => by
    refine h.run X c F σ H hh _ fun F1 H1 u e1 h1 d1 => ?_
    refine ha.run X c F1 σ H1 h1 _ fun F2 H2 v e2 h2 d2 => ?_
    refine hb.run X c F2 σ H2 h2 _ fun F3 H3 w e3 h3 d3 => ?_
    obtain ⟨_, o, hp, vs, rfl, hal⟩ := h3.ho.at hk
    have d2' : v = .ref p := d2
    have d3' : w = .int i := d3
    subst d2' d3'
    have hlen := AllD.length hal
    rw [List.length_map] at hlen
    refine ⟨p, vs, i, i.toNat, rfl, rfl, hp, ?_, ?_⟩
    · unfold ixN
      rw [if_pos h0.1, if_pos (by rw [hlen]; exact h0.2)]
    · refine (hr _ rfl).run X c W tk F3 σ _ ⟨h3.fr, h3.ho.write hk ⟨_, rfl, ?_⟩⟩ D (meet.mono ((e1.trans e2).trans e3) m)
      rw [List.map_set]
      exact AllD.set ((f y).mono (e2.trans e3) d1) _ hal
theorem ss_freeze {i : Nat} (hi : Γ[i]? = some (some (dP p))) (h : SS G C ss (Γ.set i (some (dLst G.K ds))) O k o) : SS G C ss Γ ((p, oLst ds) :: O) k o := .mk fun X c W tk F σ H hh D m => by
  obtain ⟨F', e, h2, d2⟩ := freeze_lst (G := G) hh.ho
  obtain ⟨v, hv, hd⟩ := hh.fr.2 i _ hi
  refine h.run X c W tk F' σ H ⟨?_, h2⟩ D (meet.mono e m)
  have hd' : v = .ref p := hd
  subst hd'
  have a := (hh.fr.mono e).set i d2
  have es : σ.set i (some (.ref p)) = σ := by
    refine List.ext_getElem? fun j => ?_
    by_cases hj : i = j
    · subst hj
      rw [List.getElem?_set_self (List.getElem?_eq_some_iff.mp hv).1, hv]
    · rw [List.getElem?_set_ne hj]
  rw [es] at a
  exact a
end
end Kn
namespace Kn
open PySem PySem.Spec L2
section
variable {α β γ δ : Type}
abbrev dLo (K : PySem.W.Frag) (f : α → D) (l : List α) : D := dLst K (l.map f)
abbrev dVt (K : PySem.W.Frag) (f : α → D) (l : List α) : D := dTup K (l.map f)
abbrev dT2 (K : PySem.W.Frag) (f : α → D) (g : β → D) (p : α × β) : D := dTup K [f p.1, g p.2]
abbrev dT3 (K : PySem.W.Frag) (f : α → D) (g : β → D) (h : γ → D) (p : α × β × γ) : D := dTup K [f p.1, g p.2.1, h p.2.2]
abbrev dT4 (K : PySem.W.Frag) (f : α → D) (g : β → D) (h : γ → D) (i : δ → D) (p : α × β × γ × δ) : D := dTup K [f p.1, g p.2.1, h p.2.2.1, i p.2.2.2]
abbrev dU (_ : Unit) : D := dN
end
structure Def (G : Cfg) (x : Str) (st : Stmt) : Prop where
  ex : ∃ (f : Addr) (fd : FuncData), FunD G.K x x (defArgs st) (defBody st) (defScope st) [] [] f fd ∧ G.mg x = some (.ref f)
theorem Def.callee {G : Cfg} {x : Str} {st : Stmt} (d : Def G x st) {N ps : List Str} {k : Nat} {S : SpecD} (sc : FnScope N ps (defScope st)) (len : ∀ ds O rk, S ds O rk → ds.length = ps.length)
    (hbind : ∀ (kV doc pm : Value) (an : Option Addr) (cdv ct : Value) (us : List Value), us.length = ps.length → bindArgs (PySem.W.fnOf x x (defArgs st) (defBody st) (defScope st) .none kV doc pm an cdv ct) ⟨us, []⟩ = pure (ps.zip us))
    (hb : ∀ ds O rk, S ds O rk → ∃ (S1 R : Type) (ek : Ek S1 R) (r : R), SS G ⟨k, N, defScope st, true, true⟩ (defBody st) (frame0 N ds) O ek (.rt r) ∧ ek.rs r = rk) : Callee G (k + 1) x S := by
  obtain ⟨f, fd, F, g⟩ := d.ex
  exact callee_of (fn_ok F sc len hb) g F.kp (F.bindsN hbind)
theorem scope_of {N ps : List Str} {sc : Scope} (h1 : sc.kind = .function) (h2 : sc.isCoroutine = false) (h3 : sc.isGenerator = false) (h : (decide N.Nodup && decide (N.take ps.length = ps) && ps.all (fun x => match sc.names.lookup x with
  | some .local => true
  | some .cell => true
  | _ => false) && sc.names.all fun y => match y.2 with
  | .free => false
  | _ => true) = true) : FnScope N ps sc := by
  simp only [Bool.and_eq_true, decide_eq_true_eq, List.all_eq_true] at h
  obtain ⟨⟨⟨a, b⟩, c⟩, d⟩ := h
  refine ⟨h1, h2, h3, a, b, fun x hx => ?_, fun y hy e => ?_⟩
  · have q := c x hx
    revert q
    cases sc.names.lookup x with
    | none => intro h; cases h
    | some k => cases k <;> intro h <;> first | exact .inl rfl | exact .inr rfl | cases h
  · have q := d y hy
    rw [e] at q
    cases q
section
variable {G : Cfg} {C : Sc} {Γ : Fr} {O : Own} {S1 R B : Type} {k : Ek S1 R} {o : Out S1 R} {e a b c : Expr} {es : List Expr} {d da db : D} {ds : List D} {ss : List Stmt} {pos p1 p2 p3 : Pos} {x : Str} {α : Type} {f : α → D}
theorem e_powC {i j : Int} (r : Int) (ha : E G C a Γ O (dI i)) (hb : E G C b Γ O (dI j)) (hm : (decide (0 ≤ j) && decide (j ≤ 1000000) && decide (i.natAbs < 2 ^ 64) && decide (i ^ j.toNat = r)) = true) : E G C (.BinOp a .Pow b pos) Γ O (dI r) := by
  simp only [Bool.and_eq_true, decide_eq_true_eq] at hm
  obtain ⟨⟨⟨h1, h2⟩, h3⟩, h4⟩ := hm
  exact e_eq (e_pow ha hb ⟨h1, h2, h3⟩) (by rw [h4])
theorem e_divS {i j : Int} (ha : E G C a Γ O (dI i)) (hb : E G C b Γ O (dI j)) (h1 : 0 < j ∧ j < 1073741824) : E G C (.BinOp a .FloorDiv b pos) Γ O (dI (i / j)) := e_div ha hb h1
theorem e_mulL {i j : Int} (ha : E G C a Γ O (dI i)) (hb : E G C b Γ O (dI j)) (h : -18446744073709551616 < i ∧ i < 18446744073709551616) : E G C (.BinOp a .Mult b pos) Γ O (dI (i * j)) := e_mul ha hb (.inl ⟨by have := h.1; omega, by have := h.2; omega⟩)
theorem e_mulR {i j : Int} (ha : E G C a Γ O (dI i)) (hb : E G C b Γ O (dI j)) (h : -18446744073709551616 < j ∧ j < 18446744073709551616) : E G C (.BinOp a .Mult b pos) Γ O (dI (i * j)) := e_mul ha hb (.inr ⟨by have := h.1; omega, by have := h.2; omega⟩)
theorem mem_upto {n i : Int} (h : i ∈ upto n) : 0 ≤ i ∧ i < n := by
  unfold upto at h
  obtain ⟨j, hj, rfl⟩ := List.mem_map.mp h
  have := List.mem_range.mp hj
  omega
theorem mem_range2 {m n i : Int} (h : i ∈ range2 m n) : m ≤ i ∧ i < n := by
  unfold range2 at h
  obtain ⟨j, hj, rfl⟩ := List.mem_map.mp h
  have := List.mem_range.mp hj
  omega
theorem upto_len {n : Int} : (upto n).length = n.toNat := by unfold upto; rw [List.length_map, List.length_range]
theorem range2_len {m n : Int} : (range2 m n).length = (n - m).toNat := by unfold range2; rw [List.length_map, List.length_range]
theorem inR_mod {n : Nat} {i : Int} (h : 0 < n) : inR n (i % (n : Int)) := by
  have h1 := Int.emod_nonneg i (b := (n : Int)) (by omega)
  have h2 := Int.emod_lt_of_pos i (b := (n : Int)) (by omega)
  exact ⟨by omega, h2⟩
theorem inV_str {s : Str} : ∀ {l : List Str}, inV (.str s) (l.map V.str) = decide (s ∈ l)
  | [] => rfl
  | a :: l => by
    have ih := inV_str (s := s) (l := l)
    unfold inV at ih ⊢
    rw [List.map_cons, List.any_cons, ih]
    show ((a == s) || decide (s ∈ l)) = decide (s ∈ a :: l)
    by_cases h : s = a
    · rw [h]; simp
    · have h1 : (a == s) = false := beq_eq_false_iff_ne.mpr fun z => h z.symm
      rw [h1, Bool.false_or]
      exact dec_iff ⟨fun z => List.mem_cons_of_mem _ z, fun z => (List.mem_cons.mp z).elim (fun e => absurd e h) id⟩
theorem flat_str (l : List Str) : (l.map V.str).all flatV = true := by
  rw [List.all_eq_true]
  intro x hx
  obtain ⟨y, _, rfl⟩ := List.mem_map.mp hx
  rfl
theorem subL {K : PySem.W.Frag} {l : List Str} (F : Hp) (v : V) (h : (dLst K (l.map dS)).ok F v) : (dLst K ((l.map V.str).map dV)).ok F v := by
  obtain ⟨a, vs, h1, h2, h3⟩ := h
  refine ⟨a, vs, h1, h2, ?_⟩
  rw [(AllD.dS h3).1]
  exact allD_dV _
theorem subT {K : PySem.W.Frag} {l : List Str} (F : Hp) (v : V) (h : (dTup K (l.map dS)).ok F v) : (dTup K ((l.map V.str).map dV)).ok F v := by
  obtain ⟨a, vs, h1, h2, h3⟩ := h
  refine ⟨a, vs, h1, h2, ?_⟩
  rw [(AllD.dS h3).1]
  exact allD_dV _
theorem map_dI (l : List Int) : l.map dI = (l.map V.int).map dV := by rw [List.map_map]; rfl
theorem c_inLS {s : Str} {l : List Str} : CmpR G C .In O (dS s) (dLst G.K (l.map dS)) (decide (s ∈ l)) := by rw [← inV_str]; exact c_weak (c_inS rfl (flat_str l)) (fun _ _ h => h.1) subL
theorem c_ninLS {s : Str} {l : List Str} : CmpR G C .NotIn O (dS s) (dLst G.K (l.map dS)) (!decide (s ∈ l)) := by rw [← inV_str]; exact c_weak (c_ninS rfl (flat_str l)) (fun _ _ h => h.1) subL
theorem c_inTS {s : Str} {l : List Str} : CmpR G C .In O (dS s) (dTup G.K (l.map dS)) (decide (s ∈ l)) := by rw [← inV_str]; exact c_weak (c_inT rfl (flat_str l)) (fun _ _ h => h.1) subT
def hasSign (z s : Str) : Bool := decide (s ∈ signs z)
theorem mem_signs {z : Str} {c : Nat} : (⟨#[c]⟩ : Str) ∈ signs z ↔ c ∈ z.cps.toList := by
  unfold signs
  constructor
  · intro h
    obtain ⟨d, hd, e⟩ := List.mem_map.mp h
    have e2 : #[d] = #[c] := congrArg Str.cps e
    have e3 : d = c := by simpa using e2
    rw [← e3]; exact hd
  · intro h
    exact List.mem_map.mpr ⟨c, h, rfl⟩
theorem c_ninZ {s z y : Str} (hs : s ∈ signs y) : CmpR G C .NotIn O (dS s) (dS z) (!hasSign z s) := by
  obtain ⟨c, _, rfl⟩ := List.mem_map.mp hs
  exact c_is c_ninSign (by unfold hasSign; rw [dec_iff mem_signs.symm])
theorem sizeN : (sizeLine : Nat) = 16777216 := by rw [sizeLine_eq]
theorem e_globT {ds : List D} {a : Addr} (g : Glo C x) (hm : G.mg x = some (.ref a)) (h : ∀ F, (dTup G.K ds).ok F (.ref a)) : E G C (.Name x pos) Γ O (dTup G.K ds) := e_as (e_glob (v := .ref a) g hm rfl) fun F v hv => by
  have e : v = .ref a := hv
  rw [e]; exact h F
end
end Kn
namespace Kn
open PySem PySem.Spec L2
theorem bt_len : bootBuiltins "len" = some (.builtin "len") := by decide +kernel
theorem bt_isinstance : bootBuiltins "isinstance" = some (.builtin "isinstance") := by decide +kernel
theorem bt_int : bootBuiltins "int" = some (.type "int") := by decide +kernel
theorem bt_str : bootBuiltins "str" = some (.type "str") := by decide +kernel
theorem bt_bool : bootBuiltins "bool" = some (.type "bool") := by decide +kernel
theorem bt_list : bootBuiltins "list" = some (.type "list") := by decide +kernel
theorem bt_tuple : bootBuiltins "tuple" = some (.type "tuple") := by decide +kernel
def bi (k : Bool) : Int := if k then 1 else 0
inductive Ret (S R : Type) where
  | nx (s : S)
  | rt (r : R)
def Ret.out {S R : Type} : Ret S R → Out S R
  | .nx s => .nx s
  | .rt r => .rt r
def loopL {S α R : Type} (f : S → α → Ret S R) : List α → S → Ret S R
  | [], s => .nx s
  | x :: xs, s => match f s x with
    | .nx s' => loopL f xs s'
    | .rt r => .rt r
theorem loopL_out {S α R : Type} {f : S → α → Ret S R} : ∀ {xs : List α} {s : S}, forL (fun s x => (f s x).out) xs s = (loopL f xs s).out
  | [], _ => rfl
  | x :: xs, s => by
    show (match (f s x).out with
      | .nx s' => forL (fun s x => (f s x).out) xs s'
      | .rt r => .rt r
      | .ex e => .ex e) = _
    show _ = (match f s x with
      | .nx s' => loopL f xs s'
      | .rt r => .rt r : Ret S R).out
    cases f s x with
    | nx s' => exact loopL_out (xs := xs)
    | rt r => rfl
def lp {S R : Type} (o : Ret S R) (g : S → R) : R := match o with
  | .nx s => g s
  | .rt r => r
def Ret.bind {S S1 R : Type} (o : Ret S1 R) (g : S1 → Ret S R) : Ret S R := match o with
  | .nx s => g s
  | .rt r => .rt r
theorem Ret.out_nx {S R : Type} {o : Ret S R} {s : S} (h : o.out = .nx s) : o = .nx s := by
  cases o with
  | nx t => cases h; rfl
  | rt r => cases h
section
variable {G : Cfg} {C : Sc} {Γ : Fr} {O : Own} {P : Own → Prop} {S S1 R B : Type} {k : Ek S R} {o : Out S R} {e a b c it tg : Expr} {es : List Expr} {d da db : D} {ds : List D} {ss body ta tb : List Stmt} {pos p1 p2 p3 : Pos} {x : Str} {α : Type} {f : α → D} {is : List Nat}
theorem ss_loop [Calm C] {df : α → D} {xs : List α} {h : S1 → α → Ret S1 R} {s0 : S1} {g : S1 → R} (Γ1 : S1 → Fr) (Γ2 : S1 → α → Fr) (O1 : S1 → Own) (hi : EI G C tg it Γ O P (xs.map df)) (l0 : FrLe Γ (Γ1 s0)) (o0 : O = O1 s0) (hP : ∀ s, P (O1 s))
    (hg : ∀ s x, TJ G C tg (df x) (Γ1 s) (Γ2 s x) is)
    (hb : ∀ s x pre post, xs = pre ++ x :: post → loopL h pre s0 = .nx s → SS G C body (Γ2 s x) (O1 s) (k.to fun s => SD.of (Γ1 s) (O1 s)) (h s x).out)
    (hr : ∀ s, loopL h xs s0 = .nx s → SS G C ss (Γ1 s) (O1 s) k (.rt (g s))) (hs : ∀ env x, foldedSetIterable it env x = pure x) : SS G C (.For tg it body [] pos :: ss) Γ O k (.rt (lp (loopL h xs s0) g)) := by
  have q := ss_for (ss := ss) (pos := pos) (k := k) (g := fun s => .rt (g s)) (f := fun s x => (h s x).out) Γ1 Γ2 O1 hi l0 o0 hP hg (fun s x pre post e z => hb s x pre post e (Ret.out_nx (by rw [← loopL_out]; exact z))) (fun s z => hr s (Ret.out_nx (by rw [← loopL_out]; exact z))) hs
  rw [loopL_out] at q
  revert q
  cases loopL h xs s0 with
  | nx s => exact fun q => q
  | rt r => exact fun q => q
theorem e_ifv {k : Bool} {x y : α} (h : T G C c Γ O k) (h1 : k = true → E G C a Γ O (f x)) (h2 : k = false → E G C b Γ O (f y)) : E G C (.IfExp c a b pos) Γ O (f (if k then x else y)) := by
  cases k with
  | true => exact e_ifx h h1 (fun z => nomatch z)
  | false => exact e_ifx h (fun z => nomatch z) h2
theorem e_globI {i : Int} (g : Glo C x) (hm : ∃ t, G.mg x = some (.int i t)) : E G C (.Name x pos) Γ O (dI i) := by
  obtain ⟨t, hm⟩ := hm
  exact e_glob g hm ⟨t, rfl⟩
theorem e_globS {i : Str} (g : Glo C x) (hm : ∃ t, G.mg x = some (.str i t)) (ho : okSb i = true := by decide +kernel) : E G C (.Name x pos) Γ O (dS i) := by
  obtain ⟨t, hm⟩ := hm
  exact e_as (e_glob (v := .str i) g hm ⟨t, rfl⟩) fun F v hv => ⟨hv, okS_of ho⟩
theorem e_globTS {l : List Str} (g : Glo C x) (hm : ∃ p, G.mg x = some (.ref p) ∧ ∀ H, SqT G.K H p (l.map V.str)) (ho : l.all okSb = true := by decide +kernel) : E G C (.Name x pos) Γ O (dTup G.K (l.map dS)) := by
  obtain ⟨p, hm, hs⟩ := hm
  exact e_globT g hm fun F => ⟨p, _, rfl, hs F, allD_dS l fun s h => okS_of (List.all_eq_true.mp ho s h)⟩
theorem k_lenLo {xs : List α} : CalR G C (.builtin "len") O [dLst G.K (xs.map f)] (dI xs.length) := by
  have h := k_lenL (G := G) (C := C) (O := O) (ds := xs.map f)
  rw [List.length_map] at h
  exact h
theorem k_lenVt {xs : List α} : CalR G C (.builtin "len") O [dTup G.K (xs.map f)] (dI xs.length) := by
  have h := k_lenT (G := G) (C := C) (O := O) (ds := xs.map f)
  rw [List.length_map] at h
  exact h
theorem k_lenOo {xs : List α} {k : Nat} {p : Addr} (hk : O[k]? = some (p, oLst (xs.map f))) : CalR G C (.builtin "len") O [dP p] (dI xs.length) := by
  have h := k_lenO (G := G) (C := C) (O := O) hk
  rw [List.length_map] at h
  exact h
theorem join_len (z : Str) : ∀ l : List Str, (Str.join z l).length ≤ (l.map (·.length)).sum + l.length * z.length
  | [] => Nat.zero_le _
  | [x] => by
    show x.length ≤ _
    simp only [List.map_cons, List.map_nil, List.sum_cons, List.sum_nil, List.length_cons, List.length_nil]
    omega
  | x :: y :: r => by
    have ih := join_len z (y :: r)
    have e : (Str.join z (x :: y :: r)).length = x.length + z.length + (Str.join z (y :: r)).length := by
      show ((x.cps ++ z.cps) ++ (Str.join z (y :: r)).cps).size = _
      rw [Array.size_append, Array.size_append]
      rfl
    rw [e]
    simp only [List.map_cons, List.sum_cons, List.length_cons, Nat.add_mul, Nat.one_mul] at ih ⊢
    omega
theorem join_ok {z : Str} (hz : okS z) : ∀ {l : List Str}, (∀ s ∈ l, okS s) → PyData.strOk (Str.join z l) = true
  | [], _ => (by decide +kernel : PyData.strOk Str.empty = true)
  | [x], h => (h x List.mem_cons_self).1
  | x :: y :: r, h => by
    have ih := join_ok hz (l := y :: r) fun s hs => h s (List.mem_cons_of_mem _ hs)
    refine strOk_iff.mpr fun c hc => ?_
    have hc2 : c ∈ ((x.cps ++ z.cps) ++ (Str.join z (y :: r)).cps).toList := hc
    rw [Array.toList_append, Array.toList_append] at hc2
    rcases List.mem_append.mp hc2 with h1 | h1
    · rcases List.mem_append.mp h1 with h2 | h2
      · exact strOk_iff.mp (h x List.mem_cons_self).1 c h2
      · exact strOk_iff.mp hz.1 c h2
    · exact strOk_iff.mp ih c h1
theorem e_join {z : Str} {l : List Str} (ha : E G C a Γ O (dS z)) (hb : E G C b Γ O (dLst G.K (l.map dS))) (hl : (l.map (·.length)).sum + l.length * z.length ≤ 16777216) (hs : ∀ env, starEach [b] env = [(false, eval b env)]) (hba : ∀ env, attributeBase a "join" env (eval a env) = eval a env) (hln : (p1.endLine == pos.line) = true) : E G C (.Call (.Attribute a "join" p1) [b] [] pos) Γ O (dS (Str.join z l)) := .mk fun X c F σ H hh Q q => by
  refine we_of (pe_join pe_can pe_can (hs X.env) (hba X.env) hln) (ha.run X c F σ H hh _ fun F1 H1 v e1 h1 d1 => ⟨⟨z, d1.1⟩, ?_⟩)
  refine hb.run X c F1 σ H1 h1 _ fun F2 H2 u e2 h2 d2 => ?_
  obtain ⟨p, vs, rfl, hs, hal⟩ := d2
  obtain ⟨ev, ho⟩ := AllD.dS hal
  subst ev
  refine ⟨z, p, l, d1.1, rfl, .inl (by rw [c.K]; exact gw_l h2.ho.ex hs.sq), hl, ?_⟩
  rw [TL.join_eq]
  exact q F2 H2 _ (e1.trans e2) h2 ⟨rfl, join_ok d1.2 ho, by rw [sizeLine_eq]; exact Nat.le_trans (join_len z l) hl⟩
def enumF {α : Type} : Nat → List α → List (Int × α)
  | _, [] => []
  | i, x :: xs => ((i : Int), x) :: enumF (i + 1) xs
def enumL {α : Type} (xs : List α) : List (Int × α) := enumF 0 xs
theorem enumF_len : ∀ {xs : List α} {i : Nat}, (enumF i xs).length = xs.length
  | [], _ => rfl
  | _ :: xs, i => by show (enumF (i + 1) xs).length + 1 = _; rw [enumF_len (xs := xs)]; rfl
theorem enumF_at : ∀ {xs : List α} {i j : Nat}, (enumF i xs)[j]? = (xs[j]?).map fun x => (((i + j : Nat) : Int), x)
  | [], _, _ => rfl
  | x :: xs, i, 0 => rfl
  | x :: xs, i, j + 1 => by
    show (enumF (i + 1) xs)[j]? = _
    rw [enumF_at (xs := xs), List.getElem?_cons_succ]
    have e : i + 1 + j = i + (j + 1) := by omega
    rw [e]
theorem mem_enum {xs : List α} {p : Int × α} (h : p ∈ enumL xs) : 0 ≤ p.1 ∧ p.1 < xs.length ∧ p.2 ∈ xs := by
  obtain ⟨j, hj, e⟩ := List.mem_iff_getElem.mp h
  have e2 : (enumL xs)[j]? = some p := by rw [List.getElem?_eq_getElem hj, e]
  unfold enumL at e2
  rw [enumF_at] at e2
  cases q : xs[j]? with
  | none => rw [q] at e2; cases e2
  | some x =>
    rw [q] at e2
    cases e2
    have hl := (List.getElem?_eq_some_iff.mp q).1
    exact ⟨by show (0 : Int) ≤ ((0 + j : Nat) : Int); omega, by show ((0 + j : Nat) : Int) < _; omega, List.mem_of_getElem? q⟩
theorem ei_enum {xs : List α} {elts : List Expr} {kk : Nat} (g : Glo C "enumerate") (hm : G.mg "enumerate" = none) (h : E G C a Γ O (dLst G.K (xs.map f))) (hs : ∀ env, starEach [a] env = [(false, eval a env)]) : EI G C (.Tuple elts kk p2) (.Call (.Name "enumerate" p1) [a] [] pos) Γ O anyO ((enumL xs).map (dT2 G.K dI f)) := .mk fun X c F σ H hh R q =>
  wi_of (pi_enum (c.gl g) (by rw [c.mg]; exact hm) (pa_cons pe_can pa_nil (by rw [hs]; rfl)) (hs X.env)) (h.run X c F σ H hh _ fun F1 H1 v e1 h1 d1 => by
    obtain ⟨p, vs, rfl, hl, hal⟩ := d1
    have hs' : ∀ {F' O' H'}, Gw F1 F' → HoldO F' O' H' → SqL X.K H' p vs := fun e h => by rw [c.K]; exact gw_l (e.trans h.ex) hl.sq
    have hlen := AllD.length hal
    rw [List.length_map] at hlen
    refine ⟨p, vs, rfl, hs' (Gw.refl _) h1.ho, q _ F1 H1 e1 h1 ⟨fun i d hd F O H _ e h => ?_, fun F O H _ e h => ?_⟩⟩
    · unfold enumL at hd
      rw [List.getElem?_map, enumF_at] at hd
      cases hx : xs[i]? with
      | none => rw [hx] at hd; cases hd
      | some w =>
        rw [hx] at hd
        cases hd
        obtain ⟨v, hv, dv⟩ := AllD.get (d := f w) hal (by rw [List.getElem?_map, hx]; rfl)
        refine ⟨⟨vs, v, hs' e h, hv⟩, fun y H' hy => ?_⟩
        obtain ⟨T, z, rfl, hT, rfl, hz⟩ := hy
        have hz' := hz vs (hs' e h)
        rw [hv] at hz'
        cases hz'
        obtain ⟨h2, e2⟩ := h.laid (o := .tup [.int (i : Nat), v]) hT
        refine ⟨_, e2, h2, T, [.int (i : Nat), v], rfl, .inl (.inl upd_same), ?_, (f w).mono (e.trans e2) dv, trivial⟩
        show V.int (i : Nat) = V.int ((0 + i : Nat) : Int)
        rw [Nat.zero_add]
    · refine ⟨vs, hs' e h, ?_⟩
      rw [List.length_map]
      unfold enumL
      rw [enumF_len, hlen]
      exact Nat.le_refl _)
end
end Kn
namespace Kn
open PySem PySem.Spec L2
theorem slen_app {a b : Str} : (a ++ b).length = a.length + b.length := by
  show (a.cps ++ b.cps).size = a.cps.size + b.cps.size
  exact Array.size_append
theorem signAt_len {z : Str} {i : Int} : (signAt z i).length = 1 := rfl
theorem signs_len {z : Str} : (signs z).length = z.length := by
  unfold signs
  rw [List.length_map, Array.length_toList]
  rfl
theorem enumL_len {α : Type} {xs : List α} : (enumL xs).length = xs.length := enumF_len
theorem cutS_len {z : Str} {i j : Option Int} : (cutS z i j).length ≤ z.length := cutS_length z i j
theorem cut_len {α : Type} {xs : List α} {i j : Option Int} : (cut xs i j).length ≤ xs.length := by
  unfold cut
  rw [List.length_take, List.length_drop]
  omega
theorem foldl_meas {S α : Type} {m : S → Nat} {c : Nat} {f : S → α → S} (h : ∀ s x, m (f s x) ≤ m s + c) : ∀ {xs : List α} {s0 : S}, m (xs.foldl f s0) ≤ m s0 + c * xs.length
  | [], s0 => by show m s0 ≤ m s0 + c * 0; omega
  | x :: xs, s0 => by
    have ih := foldl_meas h (xs := xs) (s0 := f s0 x)
    have a := h s0 x
    show m (xs.foldl f (f s0 x)) ≤ m s0 + c * (xs.length + 1)
    rw [Nat.mul_add, Nat.mul_one]
    omega
theorem foldl_measE {S α : Type} {m : S → Nat} {c : Nat} {f : S → α → S} (h : ∀ s x, m (f s x) = m s + c) : ∀ {xs : List α} {s0 : S}, m (xs.foldl f s0) = m s0 + c * xs.length
  | [], s0 => by show m s0 = m s0 + c * 0; omega
  | x :: xs, s0 => by
    have ih := foldl_measE h (xs := xs) (s0 := f s0 x)
    have a := h s0 x
    show m (xs.foldl f (f s0 x)) = m s0 + c * (xs.length + 1)
    rw [Nat.mul_add, Nat.mul_one]
    omega
theorem inR_len {n m : Nat} {i : Int} (h : n = m) (h2 : -(m : Int) ≤ i ∧ i < m) : inR n i := by rw [h]; exact h2
end Kn
namespace Kn
open PySem PySem.Spec L2
inductive Va where
  | non
  | bl (b : Bool)
  | int (i : Int)
  | str (s : Str)
  | lst (xs : List Va)
  | tup (xs : List Va)
  | dic
instance : Inhabited Va := ⟨.non⟩
def dEmp : D := ⟨fun F v => ∃ a, v = .ref a ∧ F a = some (.dK []), fun e ⟨a, h1, h2⟩ => ⟨a, h1, e a _ h2⟩⟩
mutual
def dA (K : PySem.W.Frag) : Va → D
  | .non => dN
  | .bl b => dB b
  | .int i => dI i
  | .str s => dS s
  | .lst xs => dLst K (dAs K xs)
  | .tup xs => dTup K (dAs K xs)
  | .dic => dEmp
def dAs (K : PySem.W.Frag) : List Va → List D
  | [] => []
  | x :: xs => dA K x :: dAs K xs
end
theorem dAs_map {K : PySem.W.Frag} : ∀ xs : List Va, dAs K xs = xs.map (dA K)
  | [] => by simp only [dAs, List.map_nil]
  | x :: xs => by simp only [dAs, List.map_cons, dAs_map xs]
theorem dA_int {K : PySem.W.Frag} (i : Int) : dA K (.int i) = dI i := by simp only [dA]
theorem dA_str {K : PySem.W.Frag} (i : Str) : dA K (.str i) = dS i := by simp only [dA]
theorem dA_bl {K : PySem.W.Frag} (i : Bool) : dA K (.bl i) = dB i := by simp only [dA]
theorem dA_non {K : PySem.W.Frag} : dA K .non = dN := by simp only [dA]
theorem dA_dic {K : PySem.W.Frag} : dA K .dic = dEmp := by simp only [dA]
theorem dA_lst {K : PySem.W.Frag} (xs : List Va) : dA K (.lst xs) = dLst K (xs.map (dA K)) := by simp only [dA, dAs_map]
theorem dA_tup {K : PySem.W.Frag} (xs : List Va) : dA K (.tup xs) = dTup K (xs.map (dA K)) := by simp only [dA, dAs_map]
def Va.kind : Va → String
  | .non => "NoneType"
  | .bl _ => "bool"
  | .int _ => "int"
  | .str _ => "str"
  | .lst _ => "list"
  | .tup _ => "tuple"
  | .dic => "dict"
def isA (n : String) (x : Va) : Bool := decide (x.kind = n) || (decide (n = "int") && decide (x.kind = "bool"))
def Va.asI : Va → Int
  | .int i => i
  | _ => 0
def Va.asS : Va → Str
  | .str i => i
  | _ => ""
def Va.asT : Va → List Va
  | .tup i => i
  | _ => []
theorem isy_str {K : PySem.W.Frag} {x : Va} (h : isA "str" x = true) : dA K x = dS x.asS := by
  cases x with
  | str s => exact dA_str s
  | _ => simp [isA, Va.kind] at h
theorem isy_tup {K : PySem.W.Frag} {x : Va} (h : isA "tuple" x = true) : dA K x = dTup K (x.asT.map (dA K)) := by
  cases x with
  | tup s => exact dA_tup s
  | _ => simp [isA, Va.kind] at h
theorem isy_int {K : PySem.W.Frag} {x : Va} (h : isA "int" x = true) (h2 : isA "bool" x = false) : dA K x = dI x.asI := by
  cases x with
  | int s => exact dA_int s
  | _ => simp [isA, Va.kind] at h h2
theorem ty_emp {K : PySem.W.Frag} : IsTy K dEmp "dict" := fun F H v ex ⟨a, h1, h2⟩ => by
  subst h1
  exact .base (.dK (ex _ _ h2))
theorem ty_any {K : PySem.W.Frag} (x : Va) : IsTy K (dA K x) x.kind := by
  cases x with
  | non => rw [dA_non]; exact ty_none
  | bl b => rw [dA_bl]; exact ty_bool
  | int b => rw [dA_int]; exact ty_int
  | str b => rw [dA_str]; exact ty_str
  | lst b => rw [dA_lst]; exact ty_lst
  | tup b => rw [dA_tup]; exact ty_tup
  | dic => rw [dA_dic]; exact ty_emp
theorem notT {b : Bool} (h : (!b) = true) : b = false := by revert h; cases b <;> simp
theorem notF {b : Bool} (h : (!b) = false) : b = true := by revert h; cases b <;> simp
theorem andL {a b : Bool} (h : (a && b) = true) : a = true := (Bool.and_eq_true_iff.mp h).1
theorem andR {a b : Bool} (h : (a && b) = true) : b = true := (Bool.and_eq_true_iff.mp h).2
theorem orL {a b : Bool} (h : (a || b) = false) : a = false := (Bool.or_eq_false_iff.mp h).1
def kinds : List String := ["NoneType", "bool", "int", "str", "list", "tuple", "dict"]
theorem kitB_any (x : Va) {n : String} (h : (kinds.all fun k => decide (kitB k n = some (decide (k = n) || (decide (n = "int") && decide (k = "bool"))))) = true) : kitB x.kind n = some (isA n x) := by
  rw [List.all_eq_true] at h
  have hm : x.kind ∈ kinds := by cases x <;> simp [Va.kind, kinds]
  exact of_decide_eq_true (h _ hm)
section
variable {G : Cfg} {C : Sc} {Γ : Fr} {O : Own} {e a b : Expr} {es : List Expr} {d da db : D} {ds : List D} {pos p1 p2 p3 : Pos} {x : Str} {α β γ δ : Type} {f : α → D} {g : β → D} {h : γ → D} {i : δ → D}
theorem k_isA {n : String} {x : Va} (hb : (kinds.all fun k => decide (kitB k n = some (decide (k = n) || (decide (n = "int") && decide (k = "bool"))))) = true) : CalR G C (.builtin "isinstance") O [dA G.K x, dV (.ty n)] (dB (isA n x)) := k_isi (ty_any x) (kitB_any x hb)
theorem kit_int : (kinds.all fun k => decide (kitB k "int" = some (decide (k = "int") || (decide ("int" = "int") && decide (k = "bool"))))) = true := by decide +kernel
theorem kit_str : (kinds.all fun k => decide (kitB k "str" = some (decide (k = "str") || (decide ("str" = "int") && decide (k = "bool"))))) = true := by decide +kernel
theorem kit_bool : (kinds.all fun k => decide (kitB k "bool" = some (decide (k = "bool") || (decide ("bool" = "int") && decide (k = "bool"))))) = true := by decide +kernel
theorem kit_tuple : (kinds.all fun k => decide (kitB k "tuple" = some (decide (k = "tuple") || (decide ("tuple" = "int") && decide (k = "bool"))))) = true := by decide +kernel
theorem any_tup {p : α → Va} (hp : ∀ x, f x = dA G.K (p x)) (xs : List α) : dTup G.K (xs.map f) = dA G.K (.tup (xs.map p)) := by
  rw [dA_tup, List.map_map]
  congr 1
  exact List.map_congr_left fun x _ => hp x
theorem any_t3 {p : α → Va} {q : β → Va} {r : γ → Va} (hp : ∀ x, f x = dA G.K (p x)) (hq : ∀ x, g x = dA G.K (q x)) (hr : ∀ x, h x = dA G.K (r x)) (x : α × β × γ) : dT3 G.K f g h x = dA G.K (.tup [p x.1, q x.2.1, r x.2.2]) := by
  rw [dA_tup]
  simp only [List.map_cons, List.map_nil, dT3, hp, hq, hr]
theorem any_t4 {p : α → Va} {q : β → Va} {r : γ → Va} {s : δ → Va} (hp : ∀ x, f x = dA G.K (p x)) (hq : ∀ x, g x = dA G.K (q x)) (hr : ∀ x, h x = dA G.K (r x)) (hs : ∀ x, i x = dA G.K (s x)) (x : α × β × γ × δ) : dT4 G.K f g h i x = dA G.K (.tup [p x.1, q x.2.1, r x.2.2.1, s x.2.2.2]) := by
  rw [dA_tup]
  simp only [List.map_cons, List.map_nil, dT4, hp, hq, hr, hs]
end
end Kn
namespace Kn
open PySem PySem.Spec L2
structure Dat {α : Type} [DecidableEq α] (K : PySem.W.Frag) (f : α → D) (p : α → PyData) (n : Nat) : Prop where
  ok : ∀ (a : α) (F H : Hp) (v : V), Gw F H → (f a).ok F v → Dp K H v (p a)
  lay : ∀ (a : α) (F : Hp) (v : V), (f a).ok F v → (p a).canLay0 = true
  dep : ∀ a, (p a).depth ≤ n
  eq : ∀ a b, PyData.eqv (p a) (p b) = decide (a = b)
theorem beq_dec {α : Type} [DecidableEq α] [BEq α] [LawfulBEq α] (a b : α) : (a == b) = decide (a = b) := by
  by_cases h : a = b
  · subst h; simp
  · simp [h]
theorem dat_int {K : PySem.W.Frag} : Dat K dI PyData.int 0 := ⟨fun a F H v _ h => (show v = .int a from h) ▸ .int a, fun _ _ _ _ => by simp only [PyData.canLay0], fun _ => by simp only [PyData.depth]; omega, fun a b => by simp only [PyData.eqv]; exact beq_dec a b⟩
theorem dat_str {K : PySem.W.Frag} : Dat K dS PyData.str 0 := ⟨fun a F H v _ h => h.1 ▸ .str a, fun _ _ _ h => by simp only [PyData.canLay0]; exact h.2.1, fun _ => by simp only [PyData.depth]; omega, fun a b => by simp only [PyData.eqv]; exact beq_dec a b⟩
section
variable {α β γ δ : Type} [DecidableEq α] [DecidableEq β] [DecidableEq γ] [DecidableEq δ] {K : PySem.W.Frag} {f : α → D} {g : β → D} {h : γ → D} {i : δ → D} {p : α → PyData} {q : β → PyData} {r : γ → PyData} {s : δ → PyData} {n m k l : Nat}
theorem Dat.all (t : Dat K f p n) {F H : Hp} (e : Gw F H) : ∀ {xs : List α} {vs : List V}, AllD F (xs.map f) vs → DpAll K H vs (xs.map p)
  | [], [], _ => .nil
  | _ :: _, _ :: _, h => .cons (t.ok _ F H _ e h.1) (Dat.all t e h.2)
  | [], _ :: _, h => h.elim
  | _ :: _, [], h => h.elim
theorem Dat.lays (t : Dat K f p n) {F : Hp} : ∀ {xs : List α} {vs : List V}, AllD F (xs.map f) vs → PyData.canLayAll0 (xs.map p) = true
  | [], [], _ => by simp only [List.map_nil, PyData.canLayAll0]
  | x :: xs, v :: vs, h => by simp only [List.map_cons, PyData.canLayAll0, t.lay x F v h.1, Dat.lays t h.2, Bool.and_self]
  | [], _ :: _, h => h.elim
  | _ :: _, [], h => h.elim
theorem Dat.deps (t : Dat K f p n) : ∀ xs : List α, PyData.depthAll (xs.map p) ≤ n
  | [] => by simp only [List.map_nil, PyData.depthAll]; omega
  | x :: xs => by
    have h1 := t.dep x
    have h2 := Dat.deps t xs
    simp only [List.map_cons, PyData.depthAll]
    omega
theorem Dat.eqs (t : Dat K f p n) : ∀ xs ys : List α, PyData.eqvAll (xs.map p) (ys.map p) = decide (xs = ys)
  | [], [] => by simp only [List.map_nil, PyData.eqvAll, decide_true]
  | [], _ :: _ => by simp only [List.map_nil, List.map_cons, PyData.eqvAll]; rfl
  | _ :: _, [] => by simp only [List.map_nil, List.map_cons, PyData.eqvAll]; rfl
  | x :: xs, y :: ys => by
    simp only [List.map_cons, PyData.eqvAll, t.eq x y, Dat.eqs t xs ys]
    by_cases h1 : x = y
    · subst h1
      by_cases h2 : xs = ys
      · subst h2; simp
      · simp [h2]
    · simp [h1]
theorem dat_lst (t : Dat K f p n) : Dat K (dLo K f) (fun xs => PyData.list (xs.map p)) (n + 1) := by
  refine ⟨fun a F H v e h => ?_, fun a F v h => by obtain ⟨_, _, _, _, h3⟩ := h; simp only [PyData.canLay0]; exact t.lays h3, fun a => by have := t.deps a; simp only [PyData.depth]; omega, fun a b => by simp only [PyData.eqv]; exact t.eqs a b⟩
  obtain ⟨x, vs, rfl, h2, h3⟩ := h
  exact .lst (gw_l e h2.sq) (t.all e h3)
theorem Dat.up (t : Dat K f p n) (hm : n ≤ m) : Dat K f p m := ⟨t.ok, t.lay, fun a => Nat.le_trans (t.dep a) hm, t.eq⟩
theorem Dat.shaped (t : Dat K f p n) (hn : n ≤ 64) (a : α) {F : Hp} {v : V} (h : (f a).ok F v) : SeqAt.shaped (p a) = true := by
  have h1 := t.lay a F v h
  have h2 := t.dep a
  show (PyData.canLay0 (p a) && decide (PyData.depth (p a) ≤ 64)) = true
  rw [h1, decide_eq_true (by omega)]
  rfl
end
section
variable {G : Cfg} {C : Sc} {Γ : Fr} {O : Own} {α : Type} [DecidableEq α] {f : α → D} {p : α → PyData} {n : Nat} {a b : α}
theorem c_eqDat (t : Dat G.K f p n) (hn : n ≤ 64) : CmpR G C .Eq O (f a) (f b) (decide (a = b)) := ⟨fun X c => ⟨_, op_eqD c.units, fun F H v u hh h1 h2 Q q => by
  refine ⟨p a, p b, by rw [c.K]; exact t.ok a F H v hh.ex h1, by rw [c.K]; exact t.ok b F H u hh.ex h2, t.shaped hn a h1, t.shaped hn b h2, ?_⟩
  rw [t.eq]
  exact q F H _ (Gw.refl F) hh rfl⟩⟩
theorem Dat.any (t : Dat G.K f p n) (a : α) : ∀ xs : List α, ((xs.map p).any fun z => PyData.eqv z (p a)) = decide (a ∈ xs)
  | [] => by simp
  | y :: ys => by
    rw [List.map_cons, List.any_cons, t.eq, Dat.any t a ys, ← Bool.decide_or]
    exact decide_eq_decide.mpr ⟨fun h => List.mem_cons.mpr (h.imp Eq.symm id), fun h => (List.mem_cons.mp h).imp Eq.symm id⟩
end
end Kn
namespace Kn
open PySem PySem.Spec L2
abbrev AlM : Type := He.AlD × Bool
structure SaysM (fa : List He.Fa) (fn : List He.DefD) (ex : PySem.W.Frag → Bool) (K : PySem.W.Frag) : Prop where
  d : He.SaysD fa fn K
  m : ex K = true
theorem walk_kn {l : PySem.W.OpenLaw} {n k : Nat} {q : Program} {loose : List Str} {XP : (Str → Option Value) → Heap → Prop} {YP : World → Heap → Prop} {d : DefRec} {x : Str}
    (hn : l.most = some n) (hn2 : n ≤ sizeLine) (hdf : d.params.defaults = []) (hr : Room k callerA)
    (F : ∀ (w : World) (mg : Str → Option Value) (fa : Addr) (h : Heap), YP w h → h.Ns mainGlobals mg → mg d.name = some (.ref fa) →
      ∃ (K : PySem.W.Frag) (fd : FuncData) (S : SpecD), K.In h ∧ (∀ (s : Shared) (u : Value), BindsTo s fd ⟨[u], []⟩ [(x, u)]) ∧
        (∀ ns : List Int, ns.length ≤ n → S [dLst K (ns.map dI)] [] (RK.val (dB true) [])) ∧
        ∀ base : Heap, K.In base → base.Ns mainGlobals mg → FnOk l.prog w K mg base (CX l.prog w) k fa fd [x] (spD S)) :
    PySem.W.WalkO q loose XP YP l.row.toRowW d [] (fun f vs => PySem.call f vs) := by
  refine Att.attach_call hn hdf fun w s₀ s₁ mg mb fa o pm cd doc a vs ns G Y ho hd hcd hmg hobj hints hlen hg => ?_
  obtain ⟨K, fd, S, KX, hb, hsp, hF⟩ := F w mg fa _ Y G.T.g hmg
  refine law_call KX G.T.g G.T.b G.T.builtins G.T.nolimit hg hobj hints (Nat.le_trans hlen hn2) hr hF hb (fun H hO hS => ?_) fun H e s' h => by
    obtain ⟨_, _, _, _, _, _, _, _, _, _, _, _, z⟩ := h
    exact z.elim
  have hl : LsA K H a (ns.map V.int) := by
    rcases hS with hS | ⟨o, its, m, hk, h1, h2, h3, h4, h5⟩
    · exact .inl hS
    · have e := KX a o hk
      rw [hobj] at e
      cases e
      cases h3
      exact .inr ⟨_, _, hk, h4, h5⟩
  refine ⟨_, [], _, H, hsp ns hlen, ⟨Gw.refl H, List.nodup_nil, fun q hq => by cases hq⟩, ⟨⟨a, ns.map V.int, rfl, hl, ?_⟩, trivial⟩, fun v H' hv => ?_, fun _ _ _ z => z⟩
  · rw [map_dI]
    exact allD_dV _
  · obtain ⟨F', _, _, hv⟩ := hv
    exact hv
theorem tab_str {K : PySem.W.Frag} {x : Str} {l : List Str} (h : He.tupB K x (l.map He.Dv.str) = true) (H : Hp) : SqT K H (He.ga K x) (l.map V.str) := by
  have a := He.tupB_ok h H
  rw [List.map_map] at a
  exact a
theorem def_of {K : PySem.W.Frag} {P : Program} {w : World} {mg : Str → Option Value} {base h : Heap} {fa : List He.Fa} {fn : List He.DefD} (X : K.In h) (Gm : h.Ns mainGlobals mg) (c : He.SaysD fa fn K) {i j : Nat} {x : Str} {st : Stmt} (hd : fn[i]? = some ⟨(x, none), x, x, defArgs st, defBody st, defScope st, [], []⟩) (hf : fa[j]? = some (.glo x)) : Def ⟨P, w, K, mg, base⟩ x st := by
  obtain ⟨fd, F⟩ := c.def_ i hd
  exact ⟨He.fAd K (x, none), fd, F, He.glo_ok X Gm (c.fact j hf)⟩
end Kn
namespace Kn
open PySem PySem.Spec L2
structure ClsAt (G : Cfg) (x : Str) (C : Addr) : Prop where
  mg : G.mg x = some (.ref C)
  cl : Cls G.K C
theorem ClsAt.same {G : Cfg} {x : Str} {C C' : Addr} (a : G.mg x = some (.ref C)) (b : G.mg x = some (.ref C')) : C = C' := by
  have e := a.symm.trans b
  cases e
  rfl
def NoAt (G : Cfg) (x f : Str) : Prop := ∃ C, G.mg x = some (.ref C) ∧ NoAttr G.K C f
def dIns (G : Cfg) (x : Str) (ns : List Str) (ds : List D) : D := ⟨fun F v => ∃ a C dx vs, v = .ref a ∧ ClsAt G x C ∧ F a = some (.ins C dx (ns.zip vs)) ∧ ds.length = ns.length ∧ AllD F ds vs, fun e ⟨a, C, dx, vs, h1, h2, h3, h4, h5⟩ => ⟨a, C, dx, vs, h1, h2, e a _ h3, h4, AllD.mono e h5⟩⟩
def oIns (G : Cfg) (x : Str) (ns : List Str) (ds : List D) : OD := ⟨fun F o => ∃ C dx vs, o = .ins C dx (ns.zip vs) ∧ ClsAt G x C ∧ ds.length = ns.length ∧ AllD F ds vs, fun e ⟨C, dx, vs, h1, h2, h3, h4⟩ => ⟨C, dx, vs, h1, h2, h3, AllD.mono e h4⟩⟩
def RK.unit (O : Own) : RK := ⟨fun F v H => v = .non ∧ ∃ F', Gw F F' ∧ HoldO F' O H, fun e ⟨h, F', e2, h2⟩ => ⟨h, F', e.trans e2, h2⟩, noXo, fun _ z => z⟩
theorem zip_lookup : ∀ {ns : List Str} {vs : List V} {i : Nat} {f : Str} {v : V}, ns.Nodup → ns[i]? = some f → vs[i]? = some v → (ns.zip vs).lookup f = some v
  | [], _, i, f, v, _, h, _ => by simp at h
  | _ :: _, [], i, f, v, _, _, h => by simp at h
  | n :: ns, u :: vs, 0, f, v, _, h1, h2 => by
    simp at h1 h2
    subst h1 h2
    simp [List.lookup]
  | n :: ns, u :: vs, i + 1, f, v, hn, h1, h2 => by
    obtain ⟨h3, h4⟩ := List.nodup_cons.mp hn
    have h1' : ns[i]? = some f := by simpa using h1
    have hne : (f == n) = false := beq_eq_false_iff_ne.mpr fun e => h3 (e ▸ List.mem_of_getElem? h1')
    rw [List.zip_cons_cons]
    show (match f == n with | true => some u | false => (ns.zip vs).lookup f) = _
    rw [hne]
    exact zip_lookup h4 h1' (by simpa using h2)
theorem zip_none : ∀ {ns : List Str} {vs : List V} {f : Str}, ns.contains f = false → (ns.zip vs).lookup f = none
  | [], _, f, _ => by simp
  | _ :: _, [], f, _ => by simp
  | n :: ns, u :: vs, f, h => by
    rw [List.contains_cons, Bool.or_eq_false_iff] at h
    rw [List.zip_cons_cons]
    show (match f == n with | true => some u | false => (ns.zip vs).lookup f) = _
    rw [h.1]
    exact zip_none h.2
theorem zip_put : ∀ {ns : List Str} {vs : List V} {f : Str} {y : V}, ns.contains f = false → vs.length = ns.length → putF f y (ns.zip vs) = (ns ++ [f]).zip (vs ++ [y])
  | [], [], f, y, _, _ => rfl
  | [], _ :: _, f, y, _, h => by simp at h
  | _ :: _, [], f, y, _, h => by simp at h
  | n :: ns, u :: vs, f, y, h, hl => by
    rw [List.contains_cons, Bool.or_eq_false_iff] at h
    have hne : ¬ n = f := fun e => by
      have := h.1
      rw [e] at this
      simp at this
    rw [List.zip_cons_cons, List.cons_append, List.cons_append, List.zip_cons_cons]
    show (if n = f then (n, y) :: ns.zip vs else (n, u) :: putF f y (ns.zip vs)) = _
    rw [if_neg hne, zip_put h.2 (by simpa using hl)]
structure CalM (G : Cfg) (k : Nat) (x m : Str) (S : SpecD) : Prop where
  ex : ∃ (C f : Addr) (fd : FuncData) (ps : List Str), ClsAt G x C ∧ Meth G.K C m f ∧ FnOk G.P G.w G.K G.mg G.base (CX G.P G.w) k f fd ps (spD S) ∧ Binds G.K fd ps []
structure CalI (G : Cfg) (k : Nat) (x : Str) (S : SpecD) : Prop where
  ex : ∃ (C f : Addr) (fd : FuncData) (ps : List Str), ClsAt G x C ∧ Mk G.K C f ∧ FnOk G.P G.w G.K G.mg G.base (CX G.P G.w) k f fd ps (spD S) ∧ Binds G.K fd ps []
structure DefM (G : Cfg) (x m q : Str) (st : Stmt) : Prop where
  ex : ∃ (C f : Addr) (fd : FuncData), ClsAt G x C ∧ Meth G.K C m f ∧ FunD G.K m q (defArgs st) (defBody st) (defScope st) [] [] f fd
structure DefI (G : Cfg) (x q : Str) (st : Stmt) : Prop where
  ex : ∃ (C f : Addr) (fd : FuncData), ClsAt G x C ∧ Mk G.K C f ∧ FunD G.K "__init__" q (defArgs st) (defBody st) (defScope st) [] [] f fd
theorem fn_okP {G : Cfg} {x qual : Str} {params : Arguments} {body : List Stmt} {scope : Scope} {f : Addr} {fd : FuncData} {N ps : List Str} {k : Nat} {S : SpecD} (F : FunD G.K x qual params body scope [] [] f fd) (sc : FnScope N ps scope)
    (len : ∀ ds O rk, S ds O rk → ds.length = ps.length)
    (hb : ∀ ds O rk, S ds O rk → ∃ (S1 R : Type) (ek : Ek S1 R) (s : S1), SS G ⟨k, N, scope, true, true⟩ body (frame0 N ds) O ek (.nx s) ∧ ∀ F σ H, (ek.fs s).ok F σ H → rk.ok F .non H) : FnOk G.P G.w G.K G.mg G.base (CX G.P G.w) (k + 1) f fd ps (spD S) := by
  obtain ⟨P, w, K, mg, base⟩ := G
  refine F.ok sc (fun vs H Q E h => ?_) (fun cdv A outer s H vs Q E hr h => ?_)
  · obtain ⟨ds, O, rk, F0, hS, hO, ha, _⟩ := h
    rw [AllD.length ha]
    exact len ds O rk hS
  · obtain ⟨ds, O, rk, F0, hS, hO, ha, hq, _⟩ := h
    obtain ⟨S1, R, ek, st, hss, hrk⟩ := hb ds O rk hS
    refine ⟨_, pss_can, hss.run _ (inC_of hr) _ (takes_of rfl rfl rfl rfl) F0 _ H ⟨frame_start ha, hO⟩ _ ?_⟩
    intro σ H' hv
    exact hq .non H' (hrk F0 σ H' hv)
section
variable {G : Cfg} {x m q : Str} {st : Stmt} {N ps : List Str} {k : Nat} {S : SpecD}
theorem DefM.callee (d : DefM G x m q st) (sc : FnScope N ps (defScope st)) (len : ∀ ds O rk, S ds O rk → ds.length = ps.length)
    (hbind : ∀ (kV doc pm : Value) (an : Option Addr) (cdv ct : Value) (us : List Value), us.length = ps.length → bindArgs (PySem.W.fnOf m q (defArgs st) (defBody st) (defScope st) .none kV doc pm an cdv ct) ⟨us, []⟩ = pure (ps.zip us))
    (hb : ∀ ds O rk, S ds O rk → ∃ (S1 R : Type) (ek : Ek S1 R) (r : R), SS G ⟨k, N, defScope st, true, true⟩ (defBody st) (frame0 N ds) O ek (.rt r) ∧ ek.rs r = rk) : CalM G (k + 1) x m S := by
  obtain ⟨C, f, fd, hC, hm, F⟩ := d.ex
  exact ⟨C, f, fd, ps, hC, hm, fn_ok F sc len hb, F.bindsN hbind⟩
theorem DefI.callee (d : DefI G x q st) (sc : FnScope N ps (defScope st)) (len : ∀ ds O rk, S ds O rk → ds.length = ps.length)
    (hbind : ∀ (kV doc pm : Value) (an : Option Addr) (cdv ct : Value) (us : List Value), us.length = ps.length → bindArgs (PySem.W.fnOf "__init__" q (defArgs st) (defBody st) (defScope st) .none kV doc pm an cdv ct) ⟨us, []⟩ = pure (ps.zip us))
    (hb : ∀ ds O rk, S ds O rk → ∃ (S1 R : Type) (ek : Ek S1 R) (s : S1), SS G ⟨k, N, defScope st, true, true⟩ (defBody st) (frame0 N ds) O ek (.nx s) ∧ ∀ F σ H, (ek.fs s).ok F σ H → rk.ok F .non H) : CalI G (k + 1) x S := by
  obtain ⟨C, f, fd, hC, hm, F⟩ := d.ex
  exact ⟨C, f, fd, ps, hC, hm, fn_okP F sc len hb, F.bindsN hbind⟩
end
def spD0 (S : SpecD) : Sp := fun vs H Q _ => ∃ ds O rk F, S ds O rk ∧ HoldO F O H ∧ AllD F ds vs ∧ (∀ v H', rk.ok F v H' → Q v H') ∧ rk.NoX
theorem fok0 {G : Cfg} {k : Nat} {f : Addr} {fd : FuncData} {ps : List Str} {S : SpecD} (F : FnOk G.P G.w G.K G.mg G.base (CX G.P G.w) k f fd ps (spD S)) : FnOk G.P G.w G.K G.mg G.base CX0 k f fd ps (spD0 S) := by
  have key : ∀ vs H Q E, spD0 S vs H Q E → spD S vs H Q E0 := fun vs H Q E ⟨ds, O, rk, F0, a, b, c, d, e⟩ => ⟨ds, O, rk, F0, a, b, c, d, fun _ _ _ z => (e _ _ _ _ z).elim⟩
  refine ⟨fun vs H Q E h => F.len vs H Q E0 (key vs H Q E h), fun A outer s H args us vs Q E hr he hb hv h => codeAny_mono (F.run A outer s H args us vs Q E0 hr he hb hv (key vs H Q E h)) fun r s' q => ?_⟩
  cases r with
  | ok fl => cases fl <;> exact q
  | error e =>
    obtain ⟨_, _, _, _, _, _, _, _, _, _, _, _, z⟩ := (show CX G.P G.w outer H s E0 e s' from q)
    exact z.elim
def dFn (G : Cfg) (k : Nat) (S : SpecD) : D := ⟨fun _ v => ∃ (f : Addr) (fd : FuncData) (ps : List Str), v = .ref f ∧ FnOk G.P G.w G.K G.mg G.base (CX G.P G.w) k f fd ps (spD S) ∧ PySem.W.keepIn G.K (.ref f) = true ∧ Binds G.K fd ps [], fun _ h => h⟩
section
variable {G : Cfg} {C : Sc} {Γ : Fr} {O : Own} {S1 R B : Type} {kk : Ek S1 R} {oo : Out S1 R} {e a b c o : Expr} {es : List Expr} {d da db : D} {ds fs : List D} {ss ta : List Stmt} {pos p1 p2 p3 : Pos} {x f m y : Str} {α β : Type} {ns : List Str} {S : SpecD} {k n : Nat} {p : Addr} {od : OD}
theorem e_fld {i : Nat} (ho : E G C o Γ O (dIns G x ns ds)) (nd : ns.Nodup) (hf : ns[i]? = some f) (hd : ds[i]? = some d) (na : NoAt G x f) (hb : ∀ env, attributeBase o f env (eval o env) = eval o env) : E G C (.Attribute o f pos) Γ O d := .mk fun X c F σ H hh Q q => by
  refine we_of (pe_fld pe_can (hb X.env)) (ho.run X c F σ H hh _ fun F1 H1 v e1 h1 d1 => ?_)
  obtain ⟨a, Cl, dx, vs, rfl, hC, ha, hl, hv⟩ := d1
  obtain ⟨C2, h2, h3⟩ := na
  have e := ClsAt.same hC.mg h2
  subst e
  obtain ⟨u, hu, du⟩ := AllD.get hv hd
  exact ⟨a, Cl, dx, _, u, rfl, h1.ho.ex a _ ha, by rw [c.K]; exact hC.cl, by rw [c.K]; exact h3, zip_lookup nd hf hu, q F1 H1 u e1 h1 du⟩
theorem ss_fld (hk : O[n]? = some (p, oIns G x ns ds)) (ha : E G C a Γ O (dP p)) (h : E G C e Γ O d) (nf : ns.contains f = false) (na : NoAt G x f) (hl : ns.length < 1000) (hs : ∀ env, swapsWith e (some (.Attribute a f p1)) pos.line env = pure false)
    (hr : SS G C ss Γ (O.set n (p, oIns G x (ns ++ [f]) (ds ++ [d]))) kk oo) : SS G C (.Assign [.Attribute a f p1] e pos :: ss) Γ O kk oo :=
  ss_cons (t := fun X => sFld X.K (WE X a) (WE X e) f) (fun X c => ps_fld pe_can pe_can (hs X.env)) fun X c W tk F σ H hh D mm => by
    refine h.run X c F σ H hh _ fun F1 H1 u e1 h1 d1 => ?_
    refine ha.run X c F1 σ H1 h1 _ fun F2 H2 v e2 h2 d2 => ?_
    have hv : v = .ref p := d2
    subst hv
    obtain ⟨_, ob, hp, Cl, dx, vs, rfl, hC, hln, hv⟩ := h2.ho.at hk
    obtain ⟨C2, h3, h4⟩ := na
    have e := ClsAt.same hC.mg h3
    subst e
    have hvl : vs.length = ns.length := (AllD.length hv).trans hln
    refine ⟨p, Cl, dx, _, rfl, hp, by rw [c.K]; exact hC.cl, by rw [c.K]; exact h4, ?_, ?_⟩
    · rw [List.length_zip]
      omega
    · rw [zip_put nf hvl]
      refine hr.run X c W tk F2 σ _ ⟨h2.fr, h2.ho.write hk ⟨Cl, dx, vs ++ [u], rfl, hC, ?_, AllD.append hv ⟨d.mono e2 d1, trivial⟩⟩⟩ D (meet.mono (e1.trans e2) mm)
      rw [List.length_append, List.length_append, hln]
      rfl
theorem we_meth0 [Calm C] {rk : RK} (cal : CalM G k x m S) (hk : k ≤ C.k) (ho : E G C o Γ O (dIns G x ns fs)) (hn : ns.contains m = false) (hS : S [dIns G x ns fs] O rk)
    (ht : ∀ env, ∃ pl, eval (.Call (.Attribute o m p1) [] [] pos) env = (do
      let ov ← eval o env
      standAt p1.atName
      let (f, first) ← holding [ov] (getMethod ov m pl)
      callWith pos f first (backTo pos (starEach [] env)) (backToKw pos (keywordEach [] env)))) {X : Cx} (c : InC G C X) {F : Hp} {σ : L2.St} {H : Hp} (hh : Hold F Γ O σ H) {Q : VK} (q : ∀ F1 v H', Gw F F1 → FrOk F1 Γ σ → rk.ok F1 v H' → Q v H') (hx : rk.NoX := by exact fun _ _ _ _ z => z) : WE X (.Call (.Attribute o m p1) [] [] pos) σ H Q := by
  obtain ⟨Cl, f, fd, ps, hC, hm, Fn, bi⟩ := cal.ex
  have Fn' : FnOk X.prog X.w X.K X.mg X.base (CX X.prog X.w) k f fd ps (spD S) := by rw [c.p, c.w, c.K, c.mg, c.base]; exact Fn
  obtain ⟨pl, ht'⟩ := ht X.env
  refine we_of (pe_meth0 (dvs := []) (E := E0) (pl := pl) pe_can (by rw [c.K]; exact hC.cl) (by rw [c.K]; exact hm) Fn' (c.room.mono hk) (by rw [c.K]; exact bi) .nil passL ht') (ho.run X c F σ H hh _ fun F0 H0 v e0 h0 d0 => ?_)
  obtain ⟨ad, C2, dx, us, rfl, hC2, hb, hl, hv⟩ := id d0
  have e2 := ClsAt.same hC.mg hC2.mg
  subst e2
  exact ⟨ad, dx, _, rfl, h0.ho.ex ad _ hb, zip_none hn, [dIns G x ns fs], O, rk, F0, hS, h0.ho, ⟨d0, trivial⟩, fun v H' hv => q F0 v H' e0 h0.fr hv, fun _ _ _ z => hx _ _ _ _ z⟩
abbrev MethTree (o : Expr) (m : Str) (p1 pos : Pos) (es : List Expr) : Prop := ∀ env, ∃ pl, eval (.Call (.Attribute o m p1) es [] pos) env = (do
      let ov ← eval o env
      standAt p1.atName
      let (f, first) ← holding [ov] (getMethod ov m pl)
      callWith pos f first (backTo pos (starEach es env)) (backToKw pos (keywordEach [] env)))
theorem en_meth0 [Calm C] (cal : CalM G k x m S) (hk : k ≤ C.k) (ho : E G C o Γ O (dIns G x ns fs)) (hn : ns.contains m = false) (hS : S [dIns G x ns fs] O (RK.new od O)) (ht : MethTree o m p1 pos []) : EN G C (.Call (.Attribute o m p1) [] [] pos) Γ O od := .mk fun X c F σ H hh Q q =>
  we_meth0 cal hk ho hn hS ht c hh fun F1 v H' e1 fr ⟨F2, p, e2, hv, h2⟩ => by subst hv; exact q F2 H' p (e1.trans e2) ⟨fr.mono e2, h2⟩
theorem e_make [Calm C] (cal : CalI G k x S) (hk : k + 1 ≤ C.k) (g : Glo C x) (hS : ∀ p, S (dP p :: ds) ((p, oIns G x [] []) :: O) (RK.unit ((p, oIns G x ns fs) :: O))) (ha : A G C (e :: es) Γ O ds) (hs : ∀ env, starEach (e :: es) env = (false, eval e env) :: starEach es env) : E G C (.Call (.Name x p1) (e :: es) [] pos) Γ O (dIns G x ns fs) := .mk fun X c F σ H hh Q q => by
  obtain ⟨Cl, f, fd, ps, hC, hm, Fn, bi⟩ := cal.ex
  have Fn' : FnOk X.prog X.w X.K X.mg X.base (CX X.prog X.w) k f fd ps (spD S) := by rw [c.p, c.w, c.K, c.mg, c.base]; exact Fn
  refine we_of (pe_make (dvs := []) (E := E0) (by rw [c.K]; exact hm) Fn' (c.room.mono hk) (c.gl g) (by rw [c.mg]; exact hC.mg) (by rw [c.K]; exact bi) .nil passL pa_can g.2.1 (hs X.env) ?_) (ha.run X c F σ H hh _ fun F1 H1 vs e1 h1 d1 => ?_)
  · have a := ha.bt pos X.env
    rw [hs] at a
    unfold backTo at a ⊢
    rw [List.map_cons, List.any_cons] at a
    exact (Bool.or_eq_false_iff.mp a).2
  · intro p dx hp hdx hne
    rw [List.append_nil]
    obtain ⟨h2, e2⟩ := h1.ho.laid (o := .own p) hdx
    have hp2 : upd H1 dx (.own p) p = none := by rw [upd_ne (Ne.symm hne)]; exact hp
    have h3 := h2.own (od := oIns G x [] []) hp2 ⟨Cl, dx, [], rfl, hC, rfl, trivial⟩
    refine ⟨_, _, _, _, hS p, h3, ⟨rfl, AllD.mono e2 d1⟩, fun v H' hv => ?_, fun _ _ _ z => z⟩
    obtain ⟨hv, F', e3, h4⟩ := hv
    refine ⟨hv, ?_⟩
    obtain ⟨ob, hob, ⟨C2, dx2, us, rfl, hC2, hl, hus⟩, e4, h5⟩ := h4.freeze
    exact q _ H' (.ref p) (((e1.trans e2).trans e3).trans e4) ⟨h1.fr.mono ((e2.trans e3).trans e4), h5⟩ ⟨p, C2, dx2, us, rfl, hC2, upd_same, hl, AllD.mono e4 hus⟩
theorem e_fn (cal : Callee G k x S) (g : Glo C x) : E G C (.Name x pos) Γ O (dFn G k S) := .mk fun X c F σ H hh Q q => by
  obtain ⟨f, fd, ps, Fn, gx, kp, bi⟩ := cal.ex
  exact we_of (pe_glob (v := .ref f) (c.gl g) (by rw [c.mg]; exact gx) rfl g.2.1) (q F H _ (Gw.refl F) hh ⟨f, fd, ps, rfl, Fn, kp, bi⟩)
theorem e_callL [Calm C] {i : Nat} (v : Var C i x) (hi : Γ[i]? = some (some (dFn G k S))) (hk : k ≤ C.k) (hS : S ds O (RK.val d O)) (ha : A G C (e :: es) Γ O ds) (hs : ∀ env, starEach (e :: es) env = (false, eval e env) :: starEach es env) : E G C (.Call (.Name x p1) (e :: es) [] pos) Γ O d := .mk fun X c F σ H hh Q q => by
  obtain ⟨u, hu, f, fd, ps, rfl, Fn, kp, bi⟩ := hh.fr.2 i _ hi
  have cal : C8.CalAt X.prog X.w X.K X.mg X.base k f (spD0 S) := by rw [c.p, c.w, c.K, c.mg, c.base]; exact ⟨fd, ps, fok0 Fn, kp, bi⟩
  refine we_of (C8.pe_cv cal cal c.room hk hk (by rw [c.n]; exact v.n) (by rw [c.sc]; exact v.v) pa_can v.d v.c (hs X.env) ?_) (.inl ⟨hu, ha.run X c F σ H hh _ fun F1 H1 vs e1 h1 d1 => ?_⟩)
  · have a := ha.bt pos X.env
    rw [hs] at a
    unfold backTo at a ⊢
    rw [List.map_cons, List.any_cons] at a
    exact (Bool.or_eq_false_iff.mp a).2
  · refine ⟨ds, O, _, F1, hS, h1.ho, d1, fun v H' hv => ?_, fun _ _ _ _ z => z⟩
    obtain ⟨F2, e2, h2, d2⟩ := hv
    exact q F2 H' v (e1.trans e2) ⟨h1.fr.mono e2, h2⟩ d2
theorem ss_skip (h : T G C c Γ O false) (hr : SS G C ss Γ O kk oo) : SS G C (.If c ta [] pos :: ss) Γ O kk oo := .mk fun X c0 W tk F σ H hh D mm =>
  wss_of (t := tSeq (tIfS (WT X c) (WSs X ta) tNext) (WSs X ss)) (pss_cons (ps_if pt_can pss_can pss_nil) pss_can) (h.run X c0 F σ H hh _ fun F1 H1 e1 h3 =>
    iteF (hr.run X c0 W tk F1 σ H1 h3 D (meet.mono e1 mm)))
theorem ss_retO {r : R} {i : Nat} (v : Var C i x) (hi : Γ[i]? = some (some (dP p))) (hr : ∀ F v H, (RK.new od O).ok F v H → (kk.rs r).ok F v H) : SS G C (.Return (some (.Name x p1)) pos :: ss) Γ ((p, od) :: O) kk (.rt r) :=
  ss_cons (t := fun X => tRet (WE X (.Name x p1))) (fun _ _ => ps_ret pe_can) fun X c W tk F σ H hh D mm => by
    have h := e_var (G := G) (C := C) (O := (p, od) :: O) (pos := p1) v hi
    refine h.run X c F σ H hh _ fun F1 H1 u e1 h1 d1 => ?_
    have hu : u = .ref p := d1
    subst hu
    exact mm.1 _ H1 (hr F _ H1 ⟨F1, p, e1, rfl, h1.ho⟩)
end
end Kn
namespace Kn
open PySem PySem.Spec L2
def inClass (st : Stmt) (j : Nat) : Stmt := match st with
  | .ClassDef (body := b) .. => b.getD j (.Pass ⟨0, 0, 0, 0⟩)
  | _ => .Pass ⟨0, 0, 0, 0⟩
section
variable {K : PySem.W.Frag} {P : Program} {w : World} {mg : Str → Option Value} {base h : Heap} {fa : List He.Fa} {fn : List He.DefD} {i j k l : Nat} {x m q : Str} {st : Stmt}
theorem clsAt_of (X : K.In h) (Gm : h.Ns mainGlobals mg) (c : He.SaysD fa fn K) (hf : fa[j]? = some (.glo x)) (hc : fa[k]? = some (.cls x)) : ClsAt ⟨P, w, K, mg, base⟩ x (He.ga K x) :=
  ⟨He.glo_ok X Gm (c.fact j hf), He.cls_ok (c.fact k hc)⟩
theorem defM_of (X : K.In h) (Gm : h.Ns mainGlobals mg) (c : He.SaysD fa fn K) (hd : fn[i]? = some ⟨(x, some m), m, q, defArgs st, defBody st, defScope st, [], []⟩) (hf : fa[j]? = some (.glo x)) (hc : fa[k]? = some (.cls x)) (hm : fa[l]? = some (.meth x m)) : DefM ⟨P, w, K, mg, base⟩ x m q st := by
  obtain ⟨fd, F⟩ := c.def_ i hd
  exact ⟨He.ga K x, He.fAd K (x, some m), fd, clsAt_of X Gm c hf hc, He.meth_ok (c.fact l hm), F⟩
theorem defI_of (X : K.In h) (Gm : h.Ns mainGlobals mg) (c : He.SaysD fa fn K) (hd : fn[i]? = some ⟨(x, some "__init__"), "__init__", q, defArgs st, defBody st, defScope st, [], []⟩) (hf : fa[j]? = some (.glo x)) (hc : fa[k]? = some (.cls x)) (hm : fa[l]? = some (.mkr x)) : DefI ⟨P, w, K, mg, base⟩ x q st := by
  obtain ⟨fd, F⟩ := c.def_ i hd
  exact ⟨He.ga K x, He.fAd K (x, some "__init__"), fd, clsAt_of X Gm c hf hc, He.mkr_ok (c.fact l hm), F⟩
theorem noat_of (X : K.In h) (Gm : h.Ns mainGlobals mg) (c : He.SaysD fa fn K) (hf : fa[j]? = some (.glo x)) (hm : fa[k]? = some (.noat x m)) : NoAt ⟨P, w, K, mg, base⟩ x m :=
  ⟨He.ga K x, He.glo_ok X Gm (c.fact j hf), He.noat_ok (c.fact k hm)⟩
end
end Kn
namespace Kn
open PySem PySem.Spec L2
section
variable {κ α : Type} [DecidableEq κ]
def dHas (kvs : List (κ × α)) (k : κ) : Bool := kvs.any fun q => decide (q.1 = k)
def dFind : List (κ × α) → κ → Option α
  | [], _ => none
  | q :: r, k => if q.1 = k then some q.2 else dFind r k
def dPut (kvs : List (κ × α)) (k : κ) (v : α) : List (κ × α) := if dHas kvs k then kvs.map (fun q => if q.1 = k then (q.1, v) else q) else kvs ++ [(k, v)]
theorem dHas_find {kvs : List (κ × α)} {k : κ} : dHas kvs k = (dFind kvs k).isSome := by
  induction kvs with
  | nil => rfl
  | cons q r ih =>
    unfold dHas at ih ⊢
    rw [List.any_cons, ih]
    unfold dFind
    by_cases h : q.1 = k
    · rw [if_pos h, decide_eq_true h]; rfl
    · rw [if_neg h, decide_eq_false h, Bool.false_or]
      cases r <;> rfl
end
section
variable {κ α KT : Type}
def AllK (F : Hp) (kk : κ → KT) (f : α → D) : List (κ × α) → List (KT × V) → Prop
  | [], [] => True
  | q :: r, u :: s => u.1 = kk q.1 ∧ (f q.2).ok F u.2 ∧ AllK F kk f r s
  | _, _ => False
theorem AllK.mono {F F' : Hp} {kk : κ → KT} {f : α → D} (e : Gw F F') : ∀ {kvs : List (κ × α)} {us : List (KT × V)}, AllK F kk f kvs us → AllK F' kk f kvs us
  | [], [], _ => trivial
  | _ :: _, _ :: _, h => ⟨h.1, D.mono _ e h.2.1, AllK.mono e h.2.2⟩
  | [], _ :: _, h => h.elim
  | _ :: _, [], h => h.elim
theorem AllK.length {F : Hp} {kk : κ → KT} {f : α → D} : ∀ {kvs : List (κ × α)} {us : List (KT × V)}, AllK F kk f kvs us → us.length = kvs.length
  | [], [], _ => rfl
  | _ :: _, _ :: _, h => by simp [AllK.length h.2.2]
  | [], _ :: _, h => h.elim
  | _ :: _, [], h => h.elim
theorem AllK.snoc {F : Hp} {kk : κ → KT} {f : α → D} {k : κ} {a : α} {v : V} (hv : (f a).ok F v) : ∀ {kvs : List (κ × α)} {us : List (KT × V)}, AllK F kk f kvs us → AllK F kk f (kvs ++ [(k, a)]) (us ++ [(kk k, v)])
  | [], [], _ => ⟨rfl, hv, trivial⟩
  | _ :: _, _ :: _, h => ⟨h.1, h.2.1, AllK.snoc hv h.2.2⟩
  | [], _ :: _, h => h.elim
  | _ :: _, [], h => h.elim
variable [DecidableEq κ] [DecidableEq KT]
theorem AllK.find {F : Hp} {kk : κ → KT} {f : α → D} (inj : ∀ a b, kk a = kk b ↔ a = b) {k : κ} : ∀ {kvs : List (κ × α)} {us : List (KT × V)}, AllK F kk f kvs us → (∀ a, dFind kvs k = some a → ∃ v, valV us (kk k) = some v ∧ (f a).ok F v) ∧ (dFind kvs k = none → valV us (kk k) = none)
  | [], [], _ => ⟨fun a e => (nomatch e), fun _ => rfl⟩
  | q :: r, u :: s, h => by
    have ih := AllK.find inj (k := k) h.2.2
    by_cases hq : q.1 = k
    · have hu : u.1 = kk k := by rw [h.1, hq]
      refine ⟨fun a e => ?_, fun e => ?_⟩
      · unfold dFind at e
        rw [if_pos hq] at e
        cases e
        exact ⟨u.2, valV_pos hu, h.2.1⟩
      · unfold dFind at e
        rw [if_pos hq] at e
        cases e
    · have hu : ¬ u.1 = kk k := by
        rw [h.1]
        exact fun e => hq ((inj _ _).mp e)
      refine ⟨fun a e => ?_, fun e => ?_⟩
      · unfold dFind at e
        rw [if_neg hq] at e
        rw [valV_neg hu]
        exact ih.1 a e
      · unfold dFind at e
        rw [if_neg hq] at e
        rw [valV_neg hu]
        exact ih.2 e
  | [], _ :: _, h => h.elim
  | _ :: _, [], h => h.elim
theorem AllK.has {F : Hp} {kk : κ → KT} {f : α → D} (inj : ∀ a b, kk a = kk b ↔ a = b) {k : κ} : ∀ {kvs : List (κ × α)} {us : List (KT × V)}, AllK F kk f kvs us → (us.any fun u => decide (u.1 = kk k)) = dHas kvs k
  | [], [], _ => rfl
  | q :: r, u :: s, h => by
    have ih := AllK.has inj (k := k) h.2.2
    unfold dHas at ih ⊢
    rw [List.any_cons, List.any_cons, ih, h.1]
    congr 1
    exact dec_iff (inj _ _)
  | [], _ :: _, h => h.elim
  | _ :: _, [], h => h.elim
theorem AllK.map {F : Hp} {kk : κ → KT} {f : α → D} (inj : ∀ a b, kk a = kk b ↔ a = b) {k : κ} {a : α} {v : V} (hv : (f a).ok F v) : ∀ {kvs : List (κ × α)} {us : List (KT × V)}, AllK F kk f kvs us → AllK F kk f (kvs.map fun q => if q.1 = k then (q.1, a) else q) (us.map fun u => if u.1 = kk k then (u.1, v) else u)
  | [], [], _ => trivial
  | q :: r, u :: s, h => by
    rw [List.map_cons, List.map_cons]
    by_cases hq : q.1 = k
    · have hu : u.1 = kk k := by rw [h.1, hq]
      rw [if_pos hq, if_pos hu]
      exact ⟨h.1, hv, AllK.map inj hv h.2.2⟩
    · have hu : ¬ u.1 = kk k := by
        rw [h.1]
        exact fun e => hq ((inj _ _).mp e)
      rw [if_neg hq, if_neg hu]
      exact ⟨h.1, h.2.1, AllK.map inj hv h.2.2⟩
  | [], _ :: _, h => h.elim
  | _ :: _, [], h => h.elim
theorem AllK.put {F : Hp} {kk : κ → KT} {f : α → D} (inj : ∀ a b, kk a = kk b ↔ a = b) {k : κ} {a : α} {v : V} (hv : (f a).ok F v) {kvs : List (κ × α)} {us : List (KT × V)} (h : AllK F kk f kvs us) : AllK F kk f (dPut kvs k a) (putK us (kk k) v) := by
  unfold dPut putK
  rw [h.has inj]
  cases dHas kvs k with
  | true => exact h.map inj hv
  | false => exact h.snoc hv
end
section
variable {G : Cfg} {C : Sc} {Γ : Fr} {O : Own} {S1 R B : Type} {kk : Ek S1 R} {oo : Out S1 R} {e a b c : Expr} {es : List Expr} {d da db : D} {ss : List Stmt} {pos p1 p2 p3 : Pos} {x : Str} {κ α : Type} [DecidableEq κ] {ke : κ → Key} {f : α → D} {kvs : List (κ × α)} {key : κ} {n : Nat} {p : Addr} {inj : ∀ a b, ke a = ke b ↔ a = b}
end
def NotN {α : Type} (f : α → D) : Prop := ∀ (a : α) (F : Hp) (v : V), (f a).ok F v → v ≠ .non
theorem notN_I : NotN dI := fun a F v h e => by rw [e] at h; cases h
theorem notN_S : NotN dS := fun a F v h e => by rw [e] at h; cases h.1
theorem notN_T {K : PySem.W.Frag} {ds : List D} {F : Hp} {v : V} (h : (dTup K ds).ok F v) : v ≠ .non := fun e => by
  obtain ⟨_, _, h, _⟩ := h
  rw [e] at h; cases h
def vaO {α : Type} (f : α → Va) : Option α → Va
  | none => .non
  | some a => f a
section
variable {G : Cfg} {C : Sc} {Γ : Fr} {O : Own} {e a b c : Expr} {es : List Expr} {d da db : D} {pos p1 p2 p3 : Pos} {x : Str} {α β : Type} {f : α → D}
theorem c_isO {o : Option α} (hn : NotN f) : CmpR G C .Is O (dO f o) dN o.isNone := cmp_of (fun _ _ => op_isN) fun F H x y hh e1 e2 Q q => by
  refine ⟨e2, ?_⟩
  cases o with
  | none =>
    have h1 : x = .non := e1
    rw [h1]
    exact q F H _ (Gw.refl F) hh rfl
  | some z => exact q F H _ (Gw.refl F) hh (by
      have := hn z F x e1
      show V.bl (decide (x = V.non)) = V.bl false
      rw [decide_eq_false this])
theorem c_notO {o : Option α} (hn : NotN f) : CmpR G C .IsNot O (dO f o) dN (!o.isNone) := cmp_of (fun _ _ => op_notN) fun F H x y hh e1 e2 Q q => by
  refine ⟨e2, ?_⟩
  cases o with
  | none =>
    have h1 : x = .non := e1
    rw [h1]
    exact q F H _ (Gw.refl F) hh rfl
  | some z => exact q F H _ (Gw.refl F) hh (by
      have := hn z F x e1
      show V.bl (!decide (x = V.non)) = V.bl true
      rw [decide_eq_false this]; rfl)
theorem o_some [Inhabited α] {o : Option α} (h : o.isNone = false) : dO f o = f (o.getD default) := by
  cases o with
  | none => cases h
  | some z => rfl
theorem any_opt {p : α → Va} (hp : ∀ x, f x = dA G.K (p x)) (o : Option α) : dO f o = dA G.K (vaO p o) := by
  cases o with
  | none => exact dA_non.symm
  | some z => exact hp z
end
end Kn
namespace Kn
theorem dPut_len {κ α : Type} [DecidableEq κ] {kvs : List (κ × α)} {k : κ} {v : α} : (dPut kvs k v).length ≤ kvs.length + 1 := by
  unfold dPut
  split
  · rw [List.length_map]; omega
  · rw [List.length_append]; exact Nat.le_refl _
end Kn
namespace Kn
open PySem PySem.Spec PyProof.Rows L2
def nubS (xs : List Str) : List Str := xs.foldl (fun acc x => if x ∈ acc then acc else acc ++ [x]) []
theorem nub_snoc (xs : List Str) (x : Str) : nubS (xs ++ [x]) = if x ∈ nubS xs then nubS xs else nubS xs ++ [x] := by
  unfold nubS
  rw [List.foldl_append]
  rfl
theorem mem_nub {x : Str} : ∀ {xs : List Str}, x ∈ nubS xs ↔ x ∈ xs := by
  intro xs
  have go : ∀ (n : Nat) (ys : List Str), ys.length = n → (x ∈ nubS ys ↔ x ∈ ys) := by
    intro n
    induction n with
    | zero =>
      intro ys h
      rw [List.length_eq_zero_iff.mp h]
      exact Iff.rfl
    | succ n ih =>
      intro ys h
      have hne : ys ≠ [] := fun e => by rw [e] at h; cases h
      have e := List.dropLast_concat_getLast hne
      have hl : ys.dropLast.length = n := by rw [List.length_dropLast, h]; rfl
      have ih' := ih _ hl
      rw [← e, nub_snoc]
      by_cases hm : ys.getLast hne ∈ nubS ys.dropLast
      · rw [if_pos hm, List.mem_append, ih']
        constructor
        · exact .inl
        · rintro (h1 | h1)
          · exact h1
          · rw [List.mem_singleton] at h1
            subst h1
            exact ih'.mp hm
      · rw [if_neg hm, List.mem_append, List.mem_append, ih']
  exact go _ xs rfl
theorem nub_len (xs : List Str) : (nubS xs).length ≤ xs.length := by
  have h := foldl_meas (m := fun l : List Str => l.length) (c := 1) (f := fun acc x => if x ∈ acc then acc else acc ++ [x]) (fun s x => by
    by_cases hx : x ∈ s
    · rw [if_pos hx]; omega
    · rw [if_neg hx, List.length_append]; exact Nat.le_refl _) (xs := xs) (s0 := [])
  show (xs.foldl _ []).length ≤ _
  have h2 : ([] : List Str).length + 1 * xs.length = xs.length := by simp
  omega
theorem set_step {P : Program} {w : World} {h' : Heap} {a : Addr} {xs : List Str} {i : Nat} (hi : i < xs.length) (hs : h'.SetOf (PySem.strKind P w) a (fun k' => (xs.take i).any (· == k') || decide (k' = xs[i])) (if (xs.take i).any (· == xs[i]) = true then (nubS (xs.take i)).length else (nubS (xs.take i)).length + 1)) :
    h'.SetOf (PySem.strKind P w) a (fun k' => (xs.take (i + 1)).any (· == k')) (nubS (xs.take (i + 1))).length := by
  have ht : xs.take (i + 1) = xs.take i ++ [xs[i]] := List.take_succ_eq_append_getElem hi
  refine SetOf_congr hs (fun k => ?_) ?_
  · rw [ht, List.any_append, List.any_cons, List.any_nil, Bool.or_false]
    congr 1
    by_cases e : k = xs[i]
    · rw [e]; simp
    · rw [decide_eq_false e]
      exact (beq_eq_false_iff_ne.mpr fun z => e z.symm).symm
  · rw [ht, nub_snoc]
    have hm : (xs.take i).any (· == xs[i]) = true ↔ xs[i] ∈ nubS (xs.take i) := by
      rw [mem_nub, List.any_eq_true]
      constructor
      · rintro ⟨y, hy, e⟩
        rw [← eq_of_beq e]; exact hy
      · exact fun h => ⟨_, h, beq_self_eq_true _⟩
    by_cases hx : xs[i] ∈ nubS (xs.take i)
    · rw [if_pos hx, if_pos (hm.mpr hx)]
    · rw [if_neg hx, if_neg fun z => hx (hm.mp z), List.length_append]
      rfl
section
variable {P : Program} {w : World} {A : Around} {R : Result → Shared → Prop} {J : Addr} {fp wr : List Addr} {Gs : Array GenState → Array GenState → Prop} {n : Nat} {It : Nat → Value → Prop} {Sta : Nat → Shared → Prop}
theorem set_loop (W : WalksS P w A.in1 J fp wr Gs n It Sta) (D : Addr) (hD : D ∉ fp) (xs : List Str) (hx : xs.length = n) (hb : n + 1 < scanBound) (hv : ∀ i v, It i v → ∃ t, v = .str (xs.getD i Str.empty) t) :
    ∀ (m i : Nat) (s : Shared), n - i = m → i ≤ n → Sta i s → s.heap.SetOf (PySem.strKind P w) D (fun k' => (xs.take i).any (· == k')) (nubS (xs.take i)).length →
      (∀ s', Moved (D :: wr) Gs s s' → s'.heap.SetOf (PySem.strKind P w) D (fun k' => (xs.take n).any (· == k')) (nubS (xs.take n)).length → R (.ok (.ret .none)) s') →
      codeAny (model P w) A (.builtin "set.update.loop" ⟨[.ref D, .ref J], []⟩) R s := by
  have hDw : D ∉ wr := fun z => hD (W.sub _ z)
  have up : ∀ b ∈ wr, b ∈ D :: wr := fun b z => List.mem_cons_of_mem _ z
  have stay : ∀ {s s' : Shared} {S : Str → Bool} {c : Nat}, Moved wr Gs s s' → s.heap.SetOf (PySem.strKind P w) D S c → s'.heap.SetOf (PySem.strKind P w) D S c := fun mv ⟨ob, es, ep, tb, ho, more⟩ => ⟨ob, es, ep, tb, mv.heap D _ hDw ho, more⟩
  intro m
  induction m with
  | zero =>
    intro i s hm hle st hS fin
    have e : i = n := by omega
    subst e
    refine codeAny_builtin F.entry_set_update_loop ?_
    rw [Around.under_plainId F.plain_set_update_loop _]
    exact wpAny_bind (W.done s _ _ st fun s' mv => wpAny_pure (fin s' (mv.mono up) (stay mv hS)))
  | succ m ih =>
    intro i s hm hle st hS fin
    have hlt : i < n := by omega
    have hl : i < xs.length := by omega
    refine codeAny_builtin F.entry_set_update_loop ?_
    rw [Around.under_plainId F.plain_set_update_loop _]
    refine wpAny_bind (W.item i s _ _ hlt st fun v s' hit st' mv => ?_)
    obtain ⟨t, rfl⟩ := hv i v hit
    have eg : xs.getD i Str.empty = xs[i] := by
      rw [List.getD_eq_getElem?_getD, List.getElem?_eq_getElem hl]
      rfl
    have hn : (nubS (xs.take i)).length ≤ i := Nat.le_trans (nub_len _) (by rw [List.length_take]; omega)
    have hS1 := stay mv hS
    refine wpAny_bind (wpAny_holding ?_)
    unfold setAdd
    refine wpAny_holding ?_
    refine wpAny_bind ((PySem.strKind P w).pyHash (k := xs.getD i Str.empty) (strKind_is _ _ _ _) ?_)
    refine wpAny_setAddHashed_of (knd := PySem.strKind P w) (s := { s' with toks := s'.toks + 1 }) (strKind_is _ _ _ _) rfl hS1 (by omega) fun h' sb hS2 => ?_
    rw [eg] at hS2
    have hS3 := set_step hl hS2
    refine wpAny_pure ⟨plainId_quiet F.plain_set_update_loop _, ih (i + 1) _ (by omega) hlt (W.frame _ s' _ _ st' (Nat.le_succ _) fun b z o q => ?_) hS3 fun s2 mv2 hS4 => ?_⟩
    · exact (sb.2 b (fun y => hD (y ▸ z))).trans q
    · refine fin s2 (Moved.trans W.gtrans ((mv.mono up).then_heap (Nat.le_succ _) fun b o z q => ?_) mv2) hS4
      exact (sb.2 b (fun y => z (y ▸ List.mem_cons_self))).trans q
end
section
variable {P : Program} {w : World} {A : Around} {E : Value → Shared → Prop} {s : Shared}
abbrev newSet (led : Bool) : Obj := { cls := .type "set", dict := none, data := .set #[] 0 (.fresh 0 0 led) }
theorem call_setS {l : Addr} {items : Array Value} {xs : List Str} {Q : Value → Shared → Prop} (hh : A.handled = none) (hl : s.heap.IsList l items) (hi : StrsAre items.toList xs) (hb : xs.length + 1 < scanBound)
    (h : ∀ (h' : Heap) (tk : Nat), h'.SetOf (PySem.strKind P w) s.heap.objs.size (fun k' => xs.any (· == k')) (nubS xs).length → (∀ b o, b < s.heap.objs.size → s.heap.get? b = some o → h'.get? b = some o) → Q (.ref s.heap.objs.size) { s with heap := h', toks := tk }) :
    wpAny (model P w) A (call (.type "set") [.ref l]) Q E s := by
  obtain ⟨c, tl, g1⟩ := PySem.F.called_set.mro
  have g2 := PySem.F.called_set.made
  have g3 := PySem.F.called_set.sub
  have g4 := PySem.F.called_set.notType
  have g5 := PySem.F.called_set.canCreate
  have g6 := PySem.F.typeCall_set_1 (.ref l)
  refine wpAny_call (codeAny_of_tree (wpAny_pure ⟨Code.quiet_builtin _ (by decide +kernel), codeAny_builtin PySem.F.entry_type_call ?_⟩))
  rw [Around.under_plain (weight_type_call_type "set" [.ref l] []) rfl]
  repeat (any_goals (first | assumption | wp_step))
  refine codeAny_mono (code_set_new_1 (.ref l) (E := E) (Q₁ := fun ob s₁ => ∃ led, ob = .ref s.heap.objs.size ∧ s₁ = { s with heap := s.heap.push (newSet led) }) fun led => ⟨led, rfl, rfl⟩) fun r s₁ hr => ?_
  cases r with
  | error e => exact hr
  | ok fl =>
    cases fl with
    | ret ob =>
      obtain ⟨led, rfl, rfl⟩ := hr
      have a1 : (s.heap.push (newSet led)).get? s.heap.objs.size = some (newSet led) := Heap.get?_push_size _ rfl
      have a2 : Shared.TypeIs { s with heap := s.heap.push (newSet led) } (.ref s.heap.objs.size) "set" := ⟨_, a1, rfl⟩
      have a3 := PySem.F.called_set.init.lookup
      have a4 := PySem.F.called_set.init.bind (.ref s.heap.objs.size)
      repeat (any_goals (first | assumption | wp_step))
      refine codeAny_mono (codeAny_call_builtin (R := wants (fun r s₂ => r = .none ∧ ∃ h' tk, s₂ = { s with heap := h', toks := tk } ∧ h'.SetOf (PySem.strKind P w) s.heap.objs.size (fun k' => xs.any (· == k')) (nubS xs).length ∧ ∀ b o, b < s.heap.objs.size → s.heap.get? b = some o → h'.get? b = some o) E)
        PySem.F.called_set.init.plain PySem.F.entry_set_init (check_set_init_1 a2 ?_)) fun r₂ s₂ hr₂ => ?_
      · have hlS : l < s.heap.objs.size := by
          obtain ⟨ol, hol, _⟩ := id hl
          exact Heap.lt_size hol
        have hl1 : (s.heap.push (newSet led)).IsList l items := hl.push _
        obtain ⟨ol, hol, hcl, nl, hdl⟩ := id hl1
        obtain ⟨ocls, odict, odata, oslots⟩ := ol
        simp only at hcl hdl
        subst hcl hdl
        have f1 := PySem.F.sub_list_set
        have f2 := PySem.F.sub_list_frozenset
        have f3 : (Value.type "list" == Value.type "dict") = false := by decide
        unfold Builtin.«set.__init__» noKeywords Builtin.Frozenset.updateFrom
        generalize hp : pyIter = it
        wp_walk
        subst hp
        refine wpAny_pyIter_list hl1 (wpAny_bind (wpAny_runValue ?_))
        have hlen : xs.length = items.size := by rw [← StrsAre.len_eq hi, Array.length_toList]
        have nI : l ≠ (s.heap.push (newSet led)).objs.size := by
          rw [Heap.size_push]
          exact Nat.ne_of_lt (Nat.lt_succ_of_lt hlS)
        have nD : s.heap.objs.size ∉ [(s.heap.push (newSet led)).objs.size, l] := by
          rw [Heap.size_push]
          simp only [List.mem_cons, List.not_mem_nil, or_false, not_or]
          exact ⟨Nat.ne_of_lt (Nat.lt_succ_self _), Nat.ne_of_gt hlS⟩
        refine set_loop ((Walks.list (show A.in1.in1.in1.handled = none by simp [hh]) _ l nI items).toS) s.heap.objs.size nD xs hlen (by omega) (fun i v q => SS.strs_at hi i v (by rw [Array.getElem?_toList]; exact q)) (items.size - 0) 0 _ (by omega) (Nat.zero_le _) ⟨⟨_, Heap.get?_push_size _ rfl, rfl, rfl⟩, hl1.push _⟩ ?_ ?_
        · refine SetOf_congr ((setObjOf_fresh (knd := PySem.strKind P w) led).setOf (Heap.get?_push_of_some _ a1) (by unfold scanBound; omega)) (fun _ => rfl) rfl
        · intro s' mv hS'
          obtain ⟨h', g', d', tk', os'⟩ := s'
          obtain rfl : g' = s.gens := mv.gens
          obtain rfl : d' = s.drawn := mv.drawn
          obtain rfl : os' = s.os := mv.os
          rw [← hlen, List.take_length] at hS'
          refine wpAny_pure (wpAny_pure ⟨rfl, h', tk', rfl, hS', fun b o q e => ?_⟩)
          refine mv.heap b o ?_ (Heap.get?_push_of_some _ (Heap.get?_push_of_some _ e))
          rw [Heap.size_push]
          simp only [List.mem_cons, List.not_mem_nil, or_false, not_or]
          exact ⟨Nat.ne_of_lt q, Nat.ne_of_lt (Nat.lt_succ_of_lt q)⟩
      · cases r₂ with
        | error e => exact hr₂
        | ok fl₂ =>
          cases fl₂ with
          | ret r =>
            obtain ⟨rfl, h', tk, rfl, hS', hk'⟩ := hr₂
            repeat (any_goals (first | assumption | wp_step))
            exact h _ _ hS' hk'
          | _ => exact hr₂.elim
    | _ => exact hr.elim
end
section
variable {G : Cfg} {C : Sc} {Γ : Fr} {O : Own} {a : Expr} {p1 p2 p3 pos : Pos}
theorem e_lenSet [Calm C] {xs : List Str} (g1 : Glo C "len") (m1 : G.mg "len" = none) (g2 : Glo C "set") (m2 : G.mg "set" = none) (ha : E G C a Γ O (dLst G.K (xs.map dS))) (hn : xs.length < 4000) (hs : ∀ env, starEach [a] env = (false, eval a env) :: starEach [] env) : E G C (.Call (.Name "len" p1) [.Call (.Name "set" p2) [a] [] p3] [] pos) Γ O (dI (nubS xs).length) := .mk fun X c F σ H hh Q q => by
  intro pins s I
  refine Call_ (ld_blt I (c.gl g1) (by rw [c.mg]; exact m1) boot_len ?_)
  refine callWith_builtin1 (args_cons ?_ rfl) rfl rfl
  refine Call_ (ld_blt I (c.gl g2) (by rw [c.mg]; exact m2) boot_set ?_)
  refine callWith_type1 (args_cons (thn (ha.run X c F σ H hh (fun v H1 => ∃ F1, Gw F F1 ∧ Hold F1 Γ O σ H1 ∧ (dLst G.K (xs.map dS)).ok F1 v) (fun F1 H1 v e1 h1 d1 => ⟨F1, e1, h1, d1⟩) pins s I) fun v s1 ⟨u, H1, I1, r1, F1, e1, h1, d1⟩ => args_nil ?_) (hs X.env)) (hs X.env) rfl
  obtain ⟨l, vs, rfl, hl, hal⟩ := d1
  obtain ⟨hv, _⟩ := AllD.dS hal
  subst hv
  cases r1
  have hsq : SqL X.K H1 l (xs.map V.str) := by rw [c.K]; exact gw_l h1.ho.ex hl.sq
  obtain ⟨its, r, pl, _⟩ := I1.list hsq
  have hb : (xs.length) + 1 < scanBound := by unfold scanBound; omega
  refine call_setS (xs := xs) (I1.ok.hd c.cm) pl.isList (by simpa using strsAre_of r) hb fun h' tk hS hk => args_nil ?_
  obtain ⟨o, es, ep, t, ho, hex, hd, _, _, _, hf, hc⟩ := hS
  have I2 : Inv X pins σ H1 { s1 with heap := h', toks := tk } := I1.kept fun b o e => hk b o (Heap.lt_size e) e
  have hn2 := nub_len xs
  refine call_len_set ho hex hd hf (by rw [hc]; omega) ⟨.int (nubS xs).length, H1, I2.tok _, ⟨_, by rw [hc]⟩, q F1 H1 _ e1 h1 rfl⟩
end
end Kn
namespace Kn
open PySem PySem.Spec L2
abbrev Sight := Str × Int × List Str
abbrev Talk := Int × Str × Str × Str
inductive Sy where
  | knew (p : Str) (h : Int)
  | unheard (p : Str) (h : Option Int)
  | silent (p : Str) (a b : Int)
  | barred (p q : Str)
deriving DecidableEq
instance : Inhabited Sy := ⟨.knew "" 0⟩
def Sy.kd : Sy → Str
  | .knew .. => "knew"
  | .unheard .. => "unheard"
  | .silent .. => "silent"
  | .barred .. => "barred"
def Sy.who : Sy → Str
  | .knew p _ => p
  | .unheard p _ => p
  | .silent p _ _ => p
  | .barred p _ => p
def Sy.len : Sy → Int
  | .silent .. => 4
  | _ => 3
def Sy.h1 : Sy → Int
  | .knew _ h => h
  | .silent _ a _ => a
  | _ => 0
def Sy.h2 : Sy → Int
  | .silent _ _ b => b
  | _ => 0
def Sy.ho : Sy → Option Int
  | .unheard _ h => h
  | _ => none
def Sy.other : Sy → Str
  | .barred _ q => q
  | _ => ""
def Sy.ds : Sy → List D
  | .knew p h => [dS "knew", dS p, dI h]
  | .unheard p h => [dS "unheard", dS p, dO dI h]
  | .silent p a b => [dS "silent", dS p, dI a, dI b]
  | .barred p q => [dS "barred", dS p, dS q]
def dSy (K : PySem.W.Frag) (s : Sy) : D := dTup K s.ds
theorem kd_knew {s : Sy} (h : decide (s.kd = ("knew" : Str)) = true) : s = .knew s.who s.h1 := by
  cases s with
  | knew p z => rfl
  | unheard p z => exact absurd (show decide (("unheard" : Str) = ("knew" : Str)) = true from h) (by decide +kernel)
  | silent p a b => exact absurd (show decide (("silent" : Str) = ("knew" : Str)) = true from h) (by decide +kernel)
  | barred p q => exact absurd (show decide (("barred" : Str) = ("knew" : Str)) = true from h) (by decide +kernel)
theorem kd_unheard {s : Sy} (h : decide (s.kd = ("unheard" : Str)) = true) : s = .unheard s.who s.ho := by
  cases s with
  | knew p z => exact absurd (show decide (("knew" : Str) = ("unheard" : Str)) = true from h) (by decide +kernel)
  | unheard p z => rfl
  | silent p a b => exact absurd (show decide (("silent" : Str) = ("unheard" : Str)) = true from h) (by decide +kernel)
  | barred p q => exact absurd (show decide (("barred" : Str) = ("unheard" : Str)) = true from h) (by decide +kernel)
theorem kd_silent {s : Sy} (h : decide (s.kd = ("silent" : Str)) = true) : s = .silent s.who s.h1 s.h2 := by
  cases s with
  | knew p z => exact absurd (show decide (("knew" : Str) = ("silent" : Str)) = true from h) (by decide +kernel)
  | unheard p z => exact absurd (show decide (("unheard" : Str) = ("silent" : Str)) = true from h) (by decide +kernel)
  | silent p a b => rfl
  | barred p q => exact absurd (show decide (("barred" : Str) = ("silent" : Str)) = true from h) (by decide +kernel)
theorem kd_barred {s : Sy} (h : decide (s.kd = ("barred" : Str)) = true) : s = .barred s.who s.other := by
  cases s with
  | knew p z => exact absurd (show decide (("knew" : Str) = ("barred" : Str)) = true from h) (by decide +kernel)
  | unheard p z => exact absurd (show decide (("unheard" : Str) = ("barred" : Str)) = true from h) (by decide +kernel)
  | silent p a b => exact absurd (show decide (("silent" : Str) = ("barred" : Str)) = true from h) (by decide +kernel)
  | barred p q => rfl
section
variable {G : Cfg} {C : Sc} {Γ : Fr} {O : Own} {a : Expr} {pos p1 p2 : Pos} {j : Nat} {s : Sy}
theorem e_sy0 (ha : E G C a Γ O (dSy G.K s)) : E G C (.Subscript a (.Constant (.int 0) j p1) pos) Γ O (dS s.kd) := e_ixT (ds := s.ds) (i := 0) (by cases s <;> rfl) ha e_int (fun _ _ => rfl)
theorem e_sy1 (ha : E G C a Γ O (dSy G.K s)) : E G C (.Subscript a (.Constant (.int 1) j p1) pos) Γ O (dS s.who) := e_ixT (ds := s.ds) (i := 1) (by cases s <;> rfl) ha e_int (fun _ _ => rfl)
theorem e_sy2k (h : decide (s.kd = ("knew" : Str)) = true) (ha : E G C a Γ O (dSy G.K s)) : E G C (.Subscript a (.Constant (.int 2) j p1) pos) Γ O (dI s.h1) := e_ixT (ds := s.ds) (i := 2) (by rw [kd_knew h]; rfl) ha e_int (fun _ _ => rfl)
theorem e_sy2s (h : decide (s.kd = ("silent" : Str)) = true) (ha : E G C a Γ O (dSy G.K s)) : E G C (.Subscript a (.Constant (.int 2) j p1) pos) Γ O (dI s.h1) := e_ixT (ds := s.ds) (i := 2) (by rw [kd_silent h]; rfl) ha e_int (fun _ _ => rfl)
theorem e_sy3s (h : decide (s.kd = ("silent" : Str)) = true) (ha : E G C a Γ O (dSy G.K s)) : E G C (.Subscript a (.Constant (.int 3) j p1) pos) Γ O (dI s.h2) := e_ixT (ds := s.ds) (i := 3) (by rw [kd_silent h]; rfl) ha e_int (fun _ _ => rfl)
theorem e_sy2u (h : decide (s.kd = ("unheard" : Str)) = true) (ha : E G C a Γ O (dSy G.K s)) : E G C (.Subscript a (.Constant (.int 2) j p1) pos) Γ O (dO dI s.ho) := e_ixT (ds := s.ds) (i := 2) (by rw [kd_unheard h]; rfl) ha e_int (fun _ _ => rfl)
theorem e_sy2b (h : decide (s.kd = ("barred" : Str)) = true) (ha : E G C a Γ O (dSy G.K s)) : E G C (.Subscript a (.Constant (.int 2) j p1) pos) Γ O (dS s.other) := e_ixT (ds := s.ds) (i := 2) (by rw [kd_barred h]; rfl) ha e_int (fun _ _ => rfl)
theorem sy_len : (s.ds.length : Int) = s.len := by cases s <;> rfl
theorem k_lenSy : CalR G C (.builtin "len") O [dSy G.K s] (dI s.len) := by
  have h := k_lenT (G := G) (C := C) (O := O) (ds := s.ds)
  rw [sy_len] at h
  exact h
end
theorem t_eq {G : Cfg} {C : Sc} {Γ : Fr} {O : Own} {e : Expr} {b b' : Bool} (h : T G C e Γ O b) (q : b = b') : T G C e Γ O b' := q ▸ h
structure BookV where
  crew : List Str
  views : List Sight
  meetings : List Talk
  claims : List Sy
abbrev bookNs : List Str := ["crew", "views", "meetings", "claims"]
abbrev dSight (K : PySem.W.Frag) : Sight → D := dT3 K dS dI (dVt K dS)
abbrev dTalk (K : PySem.W.Frag) : Talk → D := dT4 K dI dS dS dS
abbrev bookDs (K : PySem.W.Frag) (b : BookV) : List D := [dLo K dS b.crew, dLo K (dSight K) b.views, dLo K (dTalk K) b.meetings, dLo K (dSy K) b.claims]
abbrev dBook (G : Cfg) (b : BookV) : D := dIns G "Book" bookNs (bookDs G.K b)
end Kn
namespace Kn
open PySem PySem.Spec L2
theorem loop_all {α : Type} (p : α → Bool) : ∀ xs : List α, loopL (R := Bool) (fun (_ : Unit) (x : α) => if (!p x) = true then Ret.rt false else Ret.nx ()) xs () = if xs.all p = true then Ret.nx () else Ret.rt false
  | [] => by simp only [loopL, List.all_nil, if_true]
  | x :: xs => by
    have ih := loop_all p xs
    rw [List.all_cons, loopL]
    cases h : p x with
    | true =>
      simp only [Bool.not_true, Bool.true_and]
      exact ih
    | false => simp only [Bool.not_false, Bool.false_and, if_true, Bool.false_eq_true, if_false]
theorem foldl_app {α β : Type} {f : α → List β} : ∀ {xs : List α} {s0 : List β}, xs.foldl (fun s x => s ++ f x) s0 = s0 ++ xs.flatMap f
  | [], s0 => by simp
  | x :: xs, s0 => by
    rw [List.foldl_cons, foldl_app, List.flatMap_cons, List.append_assoc]
theorem nub_nodup : ∀ {xs : List Str}, xs.Nodup → nubS xs = xs := by
  have go : ∀ (n : Nat) (ys : List Str), ys.length = n → ys.Nodup → nubS ys = ys := by
    intro n
    induction n with
    | zero =>
      intro ys h _
      rw [List.length_eq_zero_iff.mp h]
      rfl
    | succ n ih =>
      intro ys h nd
      have hne : ys ≠ [] := fun e => by rw [e] at h; cases h
      have e := List.dropLast_concat_getLast hne
      have hl : ys.dropLast.length = n := by rw [List.length_dropLast, h]; rfl
      rw [← e] at nd
      have nd2 := List.nodup_append.mp nd
      have ih' := ih _ hl nd2.1
      have hm : ys.getLast hne ∉ nubS ys.dropLast := by
        rw [ih']
        exact fun z => nd2.2.2 _ z _ List.mem_cons_self rfl
      rw [← e, nub_snoc, if_neg hm, ih']
  exact fun {xs} h => go _ xs rfl h
theorem nth_inj {α : Type} [Inhabited α] {xs : List α} {i j : Int} (nd : xs.Nodup) (hi : 0 ≤ i ∧ i < xs.length) (hj : 0 ≤ j ∧ j < xs.length) (e : nth xs i = nth xs j) : i = j := by
  rw [nth_nat hi.1 hi.2, nth_nat hj.1 hj.2] at e
  have := (List.getElem_inj nd).mp e
  omega
theorem tl_app (a b : Str) : (a ++ b).cps.toList = a.cps.toList ++ b.cps.toList := by
  show (a.cps ++ b.cps).toList = _
  exact Array.toList_append
theorem str_ext {a b : Str} (h : a.cps.toList = b.cps.toList) : a = b := by
  cases a with
  | mk x =>
    cases b with
    | mk y =>
      congr
      exact Array.toList_inj.mp h
theorem len_tl (a : Str) : a.length = a.cps.toList.length := by
  rw [Array.length_toList]
  rfl
theorem tl_cutTo {z : Str} {a : Int} (h : 0 ≤ a) : (cutS z none (some a)).cps.toList = z.cps.toList.take a.toNat := by
  unfold cutS
  show ((z.cps.toList.drop (HT.sIx z.length 0 none)).take (HT.sIx z.length z.length (some a) - HT.sIx z.length 0 none)) = _
  simp only [HT.sIx]
  rw [if_neg (by omega), List.drop_zero, Nat.sub_zero, len_tl]
  by_cases q : a.toNat ≤ z.cps.toList.length
  · rw [Nat.min_eq_left q]
  · rw [Nat.min_eq_right (by omega), List.take_length, List.take_of_length_le (by omega)]
theorem tl_cutFrom {z : Str} {a : Int} (h : 0 ≤ a) : (cutS z (some a) none).cps.toList = z.cps.toList.drop a.toNat := by
  unfold cutS
  show ((z.cps.toList.drop (HT.sIx z.length 0 (some a))).take (HT.sIx z.length z.length none - HT.sIx z.length 0 (some a))) = _
  simp only [HT.sIx]
  rw [if_neg (by omega), len_tl]
  by_cases q : a.toNat ≤ z.cps.toList.length
  · rw [Nat.min_eq_left q, List.take_of_length_le (by rw [List.length_drop]; exact Nat.le_refl _)]
  · rw [Nat.min_eq_right (by omega), Nat.sub_self, List.take_zero, List.drop_eq_nil_of_le (by omega)]
theorem tl_sign {z : Str} {i : Int} : (signAt z i).cps.toList = [nth z.cps.toList i] := rfl
theorem tl_join0 : ∀ {l : List Str}, (Str.join ("" : Str) l).cps.toList = l.flatMap fun s => s.cps.toList
  | [] => by decide +kernel
  | [x] => by rw [List.flatMap_cons, List.flatMap_nil, List.append_nil]; rfl
  | x :: y :: r => by
    have ih := tl_join0 (l := y :: r)
    have e : Str.join ("" : Str) (x :: y :: r) = x ++ ("" : Str) ++ Str.join ("" : Str) (y :: r) := rfl
    have e0 : ("" : Str).cps.toList = [] := by decide +kernel
    rw [e, tl_app, tl_app, ih, e0, List.append_nil]
    rfl
theorem nodup_flat {α β : Type} {f : α → List β} : ∀ {xs : List α}, (∀ x ∈ xs, (f x).Nodup) → xs.Pairwise (fun x y => ∀ a ∈ f x, ∀ b ∈ f y, a ≠ b) → (xs.flatMap f).Nodup
  | [], _, _ => by simp
  | x :: xs, h, p => by
    rw [List.flatMap_cons]
    obtain ⟨p1, p2⟩ := List.pairwise_cons.mp p
    refine List.nodup_append.mpr ⟨h x List.mem_cons_self, nodup_flat (fun y hy => h y (List.mem_cons_of_mem _ hy)) p2, fun a ha b hb => ?_⟩
    obtain ⟨y, hy, hb⟩ := List.mem_flatMap.mp hb
    exact p1 y hy a ha b hb
theorem upto_pair {n : Int} {R : Int → Int → Prop} (h : ∀ i j, 0 ≤ i → i < j → j < n → R i j) : (upto n).Pairwise R := by
  unfold upto
  rw [List.pairwise_map]
  refine List.Pairwise.imp_of_mem (R := fun a b => a < b) (fun ha hb hab => ?_) List.pairwise_lt_range
  have h1 := List.mem_range.mp ha
  have h2 := List.mem_range.mp hb
  exact h _ _ (by omega) (by omega) (by omega)
end Kn
namespace Kn
open PySem PySem.Spec L2
theorem Var.at {N : List Str} {sc : Scope} {top cl cl' : Bool} {k k' : Nat} {i : Nat} {x : Str} (v : Var ⟨k, N, sc, top, cl⟩ i x) : Var ⟨k', N, sc, top, cl'⟩ i x := ⟨v.n, v.v, v.d, v.c⟩
theorem Loca.at {N : List Str} {sc : Scope} {top cl cl' : Bool} {k k' : Nat} {i : Nat} {x : Str} (v : Loca ⟨k, N, sc, top, cl⟩ i x) : Loca ⟨k', N, sc, top, cl'⟩ i x := ⟨v.n, v.nd, v.l, v.f⟩
theorem Glo.at {N : List Str} {sc : Scope} {top cl cl' : Bool} {k k' : Nat} {x : Str} (v : Glo ⟨k, N, sc, top, cl⟩ x) : Glo ⟨k', N, sc, top, cl'⟩ x := v
def Va.items : Va → List Va
  | .lst xs => xs
  | .tup xs => xs
  | _ => []
section
variable {G : Cfg} {C : Sc} {Γ : Fr} {O : Own} {S1 R B : Type} {kk : Ek S1 R} {oo : Out S1 R} {e a b c : Expr} {es : List Expr} {d da db : D} {ds es' : List D} {ss : List Stmt} {pos p1 p2 p3 : Pos} {x : Str} {α β : Type} {f : α → D} {g : β → D} {n : Nat} {p : Addr}
end
end Kn
namespace Kn
end Kn
namespace Kn
open PySem PySem.Spec L2
theorem HoldO.all (H : Hp) : HoldO H [] H := ⟨Gw.refl H, List.nodup_nil, fun _ h => (nomatch h)⟩
theorem HoldO.back {F : Hp} {O : Own} {H H' : Hp} (h : HoldO F O H) (e : Gw H H') : HoldO F O H' := ⟨h.ex.trans e, h.nd, fun q hq => by
  obtain ⟨h1, o, h2, h3⟩ := h.ow q hq
  exact ⟨h1, o, e q.1 o h2, h3⟩⟩
structure Cv1 (O : Own) (d d' : D) : Prop where
  to : ∀ (F H : Hp) (v : V), HoldO F O H → d.ok F v → d'.ok H v
structure Cv (O : Own) (ds ds' : List D) : Prop where
  to : ∀ (F H : Hp) (vs : List V), HoldO F O H → AllD F ds vs → AllD H ds' vs
def Free (d : D) : Prop := ∀ (F F' : Hp) (v : V), d.ok F v → d.ok F' v
theorem free_V {v : V} : Free (dV v) := fun _ _ _ h => h
theorem free_S {s : Str} : Free (dS s) := fun _ _ _ h => h
theorem free_O {α : Type} {f : α → D} (h : ∀ a, Free (f a)) {o : Option α} : Free (dO f o) := by
  cases o with
  | none => exact free_V
  | some a => exact h a
section
variable {G : Cfg} {C : Sc} {Γ : Fr} {O : Own} {e : Expr} {es : List Expr} {d d' d'' da db da' db' : D} {ds ds' : List D} {pos p1 : Pos} {x : Str} {S : SpecD} {k n : Nat} {p : Addr} {op : CmpOp} {b : Bool} {f : Value}
theorem cv1_same : Cv1 O d d := ⟨fun F H v h q => d.mono h.ex q⟩
theorem cv1_own (hk : O[n]? = some (p, oLst ds)) : Cv1 O (dP p) (dLst G.K ds) := ⟨fun F H v h q => by
  obtain ⟨_, o, hp, vs, rfl, ha⟩ := h.at hk
  exact ⟨p, vs, q, .inl (Rd.of hp), ha.mono h.ex⟩⟩
theorem cv_nil : Cv O [] [] := ⟨fun F H vs h q => by
  cases vs with
  | nil => trivial
  | cons v vs => exact q.elim⟩
theorem cv_cons (h : Cv1 O d d') (hs : Cv O ds ds') : Cv O (d :: ds) (d' :: ds') := ⟨fun F H vs hh q => by
  cases vs with
  | nil => exact q.elim
  | cons v vs => exact ⟨h.to F H v hh q.1, hs.to F H vs hh q.2⟩⟩
theorem e_callBor [Calm C] (cal : Callee G k x S) (hk : k ≤ C.k) (g : Glo C x) (hS : S ds' [] (RK.val d [])) (fr : Free d) (ha : A G C (e :: es) Γ O ds) (cv : Cv O ds ds') (hs : ∀ env, starEach (e :: es) env = (false, eval e env) :: starEach es env) : E G C (.Call (.Name x p1) (e :: es) [] pos) Γ O d := .mk fun X c F σ H hh Q q => by
  obtain ⟨f, fd, ps, Fn, gx, kp, bi⟩ := cal.ex
  have Fn' : FnOk X.prog X.w X.K X.mg X.base (CX X.prog X.w) k f fd ps (spD S) := by rw [c.p, c.w, c.K, c.mg, c.base]; exact Fn
  refine we_of (pe_call (dvs := []) (E := E0) Fn' (c.room.mono hk) (c.gl g) (by rw [c.mg]; exact gx) (by rw [c.K]; exact kp) (by rw [c.K]; exact bi) .nil passL pa_can g.2.1 (hs X.env) ?_) (ha.run X c F σ H hh _ fun F1 H1 vs e1 h1 d1 => ?_)
  · have a := ha.bt pos X.env
    rw [hs] at a
    unfold backTo at a ⊢
    rw [List.map_cons, List.any_cons] at a
    exact (Bool.or_eq_false_iff.mp a).2
  · rw [List.append_nil]
    refine ⟨ds', [], _, H1, hS, HoldO.all H1, cv.to F1 H1 vs h1.ho d1, fun v H' hv => ?_, fun _ _ _ z => z⟩
    obtain ⟨F2, e2, h2, d2⟩ := hv
    exact q F1 H' v e1 ⟨h1.fr, h1.ho.back (e2.trans h2.ex)⟩ (fr F2 F1 v d2)
end
end Kn
namespace Kn
open PySem PySem.Spec L2
section
variable {G : Cfg} {C : Sc} {Γ : Fr} {O : Own} {a : Expr} {d : D} {pos p1 p2 p3 : Pos} {p : Addr} {od : OD}
end
end Kn
namespace Kn
end Kn
namespace Kn
open PySem PySem.Spec L2
section
variable {G : Cfg} {C : Sc} {Γ : Fr} {O : Own} {S1 R B : Type} {kk : Ek S1 R} {oo : Out S1 R} {e a b c : Expr} {es : List Expr} {d da db : D} {ss : List Stmt} {pos p1 p2 p3 : Pos} {x : Str} {α : Type} {f : α → D} {kvs : List ((Str × Str) × α)} {key : Str × Str} {n : Nat} {p : Addr}
end
def SD.some' {A : Type} (f : A → SD) : SD := ⟨fun F σ H => ∃ a, (f a).ok F σ H, fun e ⟨a, h⟩ => ⟨a, (f a).anti e h⟩⟩
section
variable {G : Cfg} {C : Sc} {Γ : Fr} {O : Own} {P : Own → Prop} {S S1 R B A : Type} {k : Ek S R} {o : Out S R} {it tg : Expr} {ds : List D} {ss body : List Stmt} {pos : Pos} {α : Type} {is : List Nat}
end
section
variable {α : Type}
theorem dHas_iff {κ β : Type} [DecidableEq κ] {kvs : List (κ × β)} {k : κ} : dHas kvs k = true ↔ k ∈ kvs.map Prod.fst := by
  unfold dHas
  rw [List.any_eq_true, List.mem_map]
  constructor
  · rintro ⟨q, h1, h2⟩
    exact ⟨q, h1, of_decide_eq_true h2⟩
  · rintro ⟨q, h1, h2⟩
    exact ⟨q, h1, decide_eq_true h2⟩
end
theorem HoldO.perm {F : Hp} {O O' : Own} {H : Hp} (h : HoldO F O H) (p : O.Perm O') : HoldO F O' H := ⟨h.ex, (p.map _).nodup_iff.mp h.nd, fun q hq => h.ow q (p.mem_iff.mpr hq)⟩
theorem HoldO.imp {F : Hp} {O : Own} {H : Hp} {p : Addr} {od od' : OD} (h : HoldO F ((p, od) :: O) H) (k : ∀ F o, od.ok F o → od'.ok F o) : HoldO F ((p, od') :: O) H := ⟨h.ex, h.nd, fun q hq => by
  rcases List.mem_cons.mp hq with rfl | hq
  · obtain ⟨h1, o, h2, h3⟩ := h.ow (p, od) List.mem_cons_self
    exact ⟨h1, o, h2, k F o h3⟩
  · exact h.ow q (List.mem_cons_of_mem _ hq)⟩
section
variable {G : Cfg} {C : Sc} {Γ : Fr} {O : Own} {S1 R B : Type} {kk : Ek S1 R} {oo : Out S1 R} {e a b : Expr} {ss : List Stmt} {pos p1 p2 p3 p4 p5 : Pos} {α : Type} {f : α → D} {kvs : List (Str × List α)} {as : List Addr} {key : Str} {y : α} {p : Addr}
end
section
variable {α : Type}
end
section
variable {G : Cfg} {C : Sc} {Γ : Fr} {O : Own} {a b : Expr} {pos : Pos} {α : Type} {f : α → D} {kvs : List ((Str × Str) × α)} {key : Str × Str}
end
section
variable {κ : Type} [DecidableEq κ] {ke : κ → Key} {G : Cfg} {C : Sc} {Γ : Fr} {O : Own} {a b : Expr} {d : D} {pos : Pos} {α : Type} {f : α → D} {kvs : List (κ × α)} {key : κ} {n : Nat} {p : Addr}
end
end Kn
namespace Kn
open PySem PySem.Spec L2 PySem.W PyProof.Rows
def srtD {α : Type} (p : α → PyData) (xs : List α) : List α := xs.mergeSort (dataLe false p)
theorem srt_perm {α : Type} {p : α → PyData} {xs : List α} : (srtD p xs).Perm xs := List.mergeSort_perm _ _
theorem srt_len {α : Type} {p : α → PyData} {xs : List α} : (srtD p xs).length = xs.length := srt_perm.length_eq
theorem mem_srt {α : Type} {p : α → PyData} {xs : List α} {x : α} : x ∈ srtD p xs ↔ x ∈ xs := srt_perm.mem_iff
section
variable {G : Cfg} {C : Sc} {O : Own} {α : Type} [DecidableEq α] {f : α → D} {p : α → PyData} {n : Nat} {xs : List α}
end
def kys {κ α : Type} (kvs : List (κ × α)) : List κ := kvs.map fun q => q.1
section
variable {G : Cfg} {C : Sc} {Γ : Fr} {O : Own} {α : Type} {f : α → D} {kvs : List (Str × α)} {it tg : Expr}
end
section
variable {G : Cfg} {C : Sc} {O : Own} {i j : Str}
end
section
variable {G : Cfg} {C : Sc} {Γ : Fr} {O : Own} {S1 R B : Type} {k : Ek S1 R} {e a b : Expr} {ss : List Stmt} {pos p1 p2 : Pos} {α : Type} {f : α → D} {n : Nat} {p : Addr}
end
end Kn
namespace Kn
open PySem PySem.Spec L2 PySem.W PyProof.Rows
inductive Wy where
  | saw (n : Int)
  | heard (n : Int) (t : Str)
deriving DecidableEq
instance : Inhabited Wy := ⟨.saw 0⟩
def Wy.kd : Wy → Str
  | .saw .. => "saw"
  | .heard .. => "heard"
def Wy.no : Wy → Int
  | .saw n => n
  | .heard n _ => n
def Wy.tl : Wy → Str
  | .saw _ => ""
  | .heard _ t => t
def Wy.ds : Wy → List D
  | .saw n => [dS "saw", dI n]
  | .heard n t => [dS "heard", dI n, dS t]
def dWy (K : PySem.W.Frag) (w : Wy) : D := dTup K w.ds
theorem wy_kinds (w : Wy) : decide (w.kd = ("heard" : Str)) = !decide (w.kd = ("saw" : Str)) := by
  cases w with
  | saw n => show decide (("saw" : Str) = ("heard" : Str)) = !decide (("saw" : Str) = ("saw" : Str)); decide +kernel
  | heard n t => show decide (("heard" : Str) = ("heard" : Str)) = !decide (("heard" : Str) = ("saw" : Str)); decide +kernel
section
variable {G : Cfg} {C : Sc} {Γ : Fr} {O : Own} {a : Expr} {pos p1 p2 : Pos} {j : Nat} {w : Wy}
end
theorem wy_nsaw {w : Wy} (h : decide (w.kd = ("saw" : Str)) = false) : decide (w.kd = ("heard" : Str)) = true := by rw [wy_kinds, h]; rfl
section
variable {G : Cfg} {C : Sc} {Γ : Fr} {O : Own} {S1 R : Type} {kk : Ek S1 R} {oo : Out S1 R} {ss : List Stmt} {α : Type} {f : α → D} {kvs : List ((Str × Str) × α)} {p : Addr}
end
theorem mem_kys {κ α : Type} [DecidableEq κ] {kvs : List (κ × α)} {k : κ} : k ∈ kys kvs ↔ dHas kvs k = true := dHas_iff.symm
theorem has_srt {α : Type} {kvs : List (Str × α)} {k : Str} (h : k ∈ srtD PyData.str (kys kvs)) : dHas kvs k = true := mem_kys.mp (mem_srt.mp h)
end Kn
namespace Kn
open PySem PySem.Spec L2 PySem.W PyProof.Rows
section
variable {G : Cfg} {C : Sc} {Γ : Fr} {O : Own} {a b : Expr} {pos p1 p2 p3 : Pos} {ds es : List D} {j k : Nat}
end
end Kn
namespace Kn
open PySem PySem.Spec L2 PySem.W PyProof.Rows
theorem ofS_len (s : String) : (Str.ofString s).length = s.length := PySem.ofString_length s
theorem ofS_cps (s : String) : (Str.ofString s).cps.toList = s.toList.map Char.toNat := by
  rw [← cpsOfBytes_string]
  simp [Str.ofString]
theorem ofS_ok (s : String) : PyData.strOk (Str.ofString s) = true := strOk_iff.mpr fun c hc => by
  rw [ofS_cps] at hc
  obtain ⟨d, _, rfl⟩ := List.mem_map.mp hc
  have h := d.valid
  have hv : d.toNat = d.val.toNat := rfl
  rcases h with h | h
  · rw [hv]; omega
  · rw [hv]; omega
def decS (i : Int) : Str := Str.ofString (toString i)
theorem dec_len {i : Int} (h : 0 ≤ i ∧ i ≤ 1000000000000000000) : (decS i).length ≤ 20 := by
  unfold decS
  rw [ofS_len]
  exact int_text_length_le10 (k := 19) (by decide) (by have : (10 : Nat) ^ 19 = 10000000000000000000 := by decide
                                                       omega)
theorem k_strH {G : Cfg} {C : Sc} {O : Own} {i : Int} (h : 0 ≤ i ∧ i ≤ 1000000000000000000) : CalR G C (.type "str") O [dI i] (dS (decS i)) := k_strI (by
  have h1 : i.natAbs < 2 ^ 60 := by
    have : (2 : Nat) ^ 60 = 1152921504606846976 := by decide
    omega
  by_cases h0 : i.natAbs = 0
  · rw [h0]; decide
  · have := (Nat.log2_lt h0).mpr h1
    omega) ⟨ofS_ok _, by have := dec_len h; unfold decS at this; rw [sizeLine_eq]; omega⟩
section
variable {G : Cfg} {C : Sc} {Γ : Fr} {O : Own} {S1 R B : Type} {k : Ek S1 R} {e a b : Expr} {ss : List Stmt} {pos p1 p2 : Pos} {α : Type} {f : α → D} {n : Nat} {p : Addr}
end
section
variable {G : Cfg} {C : Sc} {Γ : Fr} {O : Own} {a b : Expr} {pos p1 : Pos}
end
end Kn
namespace Kn
open PySem PySem.Spec L2
theorem era_perm {α : Type} {c : α} : ∀ {l : List α} {n : Nat}, l[n]? = some c → l.Perm (c :: l.eraseIdx n)
  | [], n, h => by simp at h
  | x :: l, 0, h => by simp at h; subst h; exact List.Perm.refl _
  | x :: l, n + 1, h => by
    have ih := era_perm (l := l) (n := n) (by simpa using h)
    exact (ih.cons x).trans (List.Perm.swap c x _)
theorem HoldO.pull {F : Hp} {O : Own} {H : Hp} {n : Nat} {p : Addr} {od : OD} (h : HoldO F O H) (hk : O[n]? = some (p, od)) : HoldO F ((p, od) :: O.eraseIdx n) H := h.perm (era_perm hk)
theorem slot_same {σ : L2.St} {i : Nat} {v : V} (hv : σ[i]? = some (some v)) : σ.set i (some v) = σ := by
  refine List.ext_getElem? fun j => ?_
  by_cases hj : i = j
  · subst hj
    rw [List.getElem?_set_self (List.getElem?_eq_some_iff.mp hv).1, hv]
  · rw [List.getElem?_set_ne hj]
theorem FrOk.put {F : Hp} {Γ : Fr} {σ : L2.St} {i : Nat} {d d' : D} (h : FrOk F Γ σ) (hi : Γ[i]? = some (some d)) (hd : ∀ v, d.ok F v → d'.ok F v) : FrOk F (Γ.set i (some d')) σ := by
  obtain ⟨v, hv, dv⟩ := h.2 i d hi
  have a := h.set i (hd v dv)
  rw [slot_same hv] at a
  exact a
theorem AllD.put {F : Hp} {d d' : D} (hd : ∀ v, d.ok F v → d'.ok F v) : ∀ {ds : List D} {vs : List V} {n : Nat}, ds[n]? = some d → AllD F ds vs → AllD F (ds.set n d') vs
  | [], _, n, e, _ => by simp at e
  | x :: ds, [], n, _, h => h.elim
  | x :: ds, v :: vs, 0, e, h => by simp at e; subst e; exact ⟨hd v h.1, h.2⟩
  | x :: ds, v :: vs, n + 1, e, h => ⟨h.1, AllD.put hd (by simpa using e) h.2⟩
theorem HoldO.put {F : Hp} {O : Own} {H : Hp} {n : Nat} {p : Addr} {od od' : OD} (h : HoldO F O H) (hk : O[n]? = some (p, od)) (hd : ∀ o, od.ok F o → od'.ok F o) : HoldO F (O.set n (p, od')) H := by
  obtain ⟨hlt, hge⟩ := List.getElem?_eq_some_iff.mp hk
  refine ⟨h.ex, ?_, fun q hq => ?_⟩
  · have em : (O.set n (p, od')).map (·.1) = O.map (·.1) := by
      rw [List.map_set]
      refine List.ext_getElem? fun i => ?_
      by_cases hi : n = i
      · subst hi
        rw [List.getElem?_set_self (by rw [List.length_map]; exact hlt), List.getElem?_map, hk]
        rfl
      · rw [List.getElem?_set_ne hi]
    rw [em]; exact h.nd
  · rcases List.mem_or_eq_of_mem_set hq with h1 | h1
    · exact h.ow q h1
    · subst h1
      obtain ⟨h2, o, h3, h4⟩ := h.at hk
      exact ⟨h2, o, h3, hd o h4⟩
section
variable {G : Cfg} {C : Sc} {Γ Γ' : Fr} {O : Own} {S1 R B : Type} {kk : Ek S1 R} {oo : Out S1 R} {e a b c : Expr} {es : List Expr} {d d' : D} {ds : List D} {ss body : List Stmt} {pos p1 p2 p3 : Pos} {x : Str} {α : Type} {f : α → D} {n m i k : Nat} {p q : Addr} {od : OD} {ks : List Str} {key : Str}
theorem freeze_lstAt {F : Hp} {H : Hp} (h : HoldO F O H) (hk : O[n]? = some (p, oLst ds)) : ∃ F', Gw F F' ∧ HoldO F' (O.eraseIdx n) H ∧ (dLst G.K ds).ok F' (.ref p) := freeze_lst (h.pull hk)
structure AN (G : Cfg) (C : Sc) (es : List Expr) (Γ : Fr) (O : Own) (T : (Own → List D → Prop) → Prop) : Prop where
  st : ∀ env, (starEach es env).any (·.1) = false
  run : ∀ X, InC G C X → ∀ (F : Hp) (σ : L2.St) (H : Hp), Hold F Γ O σ H → ∀ R, T R → ∀ Q : List V → Hp → Prop, (∀ F' H' vs O' ds, R O' ds → Gw F F' → Hold F' Γ O' σ H' → AllD F' ds vs → Q vs H') → WA X es σ H Q
structure ET (G : Cfg) (C : Sc) (e : Expr) (Γ : Fr) (O : Own) (T : (Own → D → Prop) → Prop) : Prop where
  run : ∀ X, InC G C X → ∀ (F : Hp) (σ : L2.St) (H : Hp), Hold F Γ O σ H → ∀ R, T R → ∀ Q : VK, (∀ F' H' v O' d, R O' d → Gw F F' → Hold F' Γ O' σ H' → d.ok F' v → Q v H') → WE X e σ H Q
theorem an_nil : AN G C [] Γ O (fun R => R O []) := ⟨fun _ => rfl, fun X c F σ H hh R t Q q => wa_of pa_nil (q F H [] O [] t (Gw.refl F) hh trivial)⟩
theorem an_new {T : Addr → (Own → List D → Prop) → Prop} (h : EN G C e Γ O od) (hr : ∀ p, AN G C es Γ ((p, od) :: O) (T p)) (hs : ∀ env, starEach (e :: es) env = (false, eval e env) :: starEach es env) : AN G C (e :: es) Γ O (fun R => ∀ p, T p fun O' ds => R O' (dP p :: ds)) :=
  ⟨fun env => by rw [hs, List.any_cons, (hr 0).st]; rfl, fun X c F σ H hh R t Q q => by
    refine wa_of (pa_cons pe_can pa_can (hs X.env)) (h.run X c F σ H hh _ fun F1 H1 p e1 h1 => ?_)
    exact (hr p).run X c F1 σ H1 h1 _ (t p) _ fun F2 H2 vs O' ds r e2 h2 d2 => q F2 H2 _ O' _ r (e1.trans e2) h2 ⟨rfl, d2⟩⟩
def RK.set (S : Own → D → Prop) : RK := ⟨fun F v H => ∃ F' O' d, S O' d ∧ Gw F F' ∧ HoldO F' O' H ∧ d.ok F' v, fun e ⟨F', O', d, h1, e2, h2, h3⟩ => ⟨F', O', d, h1, e.trans e2, h2, h3⟩, noXo, fun _ z => z⟩
theorem ss_asgT {T : (Own → D → Prop) → Prop} (l : Loca C i x) (hs : ∀ env, swapsWith e (some (.Name x p1)) pos.line env = pure false) (h : ET G C e Γ O T) (hr : T fun O' d => SS G C ss (Γ.set i (some d)) O' kk oo) : SS G C (.Assign [.Name x p1] e pos :: ss) Γ O kk oo :=
  ss_cons (t := fun X => tAsg (WE X e) (gName i)) (fun X c => ps_set (by rw [c.n]; exact l.nd) (by rw [c.n]; exact l.n) (by rw [c.sc]; exact l.l) pe_can (hs X.env) (by rcases l.f with h | h; exact .inl (c.fn h x); exact .inr (by rw [c.sc]; exact h)))
    fun X c W tk F σ H hh D m => h.run X c F σ H hh _ hr _ fun F1 H1 v O' d r e1 h1 d1 => r.run X c W tk F1 _ H1 (Hold.set i h1 d1) D (meet.mono e1 m)
end
section
variable {G : Cfg} {C : Sc} {Γ : Fr} {O : Own} {S1 S2 R B : Type} {kk : Ek S1 R} {c : Expr} {ss body : List Stmt} {pos : Pos}
end
end Kn
namespace Kn
open PySem PySem.Spec L2
section
variable {G : Cfg} {C : Sc} {Γ : Fr} {O : Own} {S1 R B : Type} {kk : Ek S1 R} {oo : Out S1 R} {e a b c : Expr} {d da db : D} {ss : List Stmt} {pos p1 p2 p3 : Pos} {κ α : Type} [DecidableEq κ] {ke : κ → Key} {f : α → D} {kvs : List (κ × α)} {key : κ} {n : Nat} {p : Addr}
end
section
variable {G : Cfg} {C : Sc} {Γ : Fr} {O : Own} {a : Expr} {pos p1 : Pos} {s : Sy} {j : Nat}
end
section
variable {G : Cfg} {C : Sc} {Γ : Fr} {O : Own} {tg it : Expr} {ds : List D} {n : Nat} {p : Addr}
end
end Kn
namespace Kn
open PySem PySem.Spec L2 PySem.W PyProof.Rows
end Kn
namespace Kn
open PySem PySem.Spec L2
def Wy.len : Wy → Int
  | .saw _ => 2
  | .heard _ _ => 3
section
variable {G : Cfg} {C : Sc} {O : Own} {ds : List D} {w : Wy}
end
end Kn
namespace Kn
open PySem PySem.Spec L2
inductive Stl where
  | story (r : List (Str × Int × Wy))
  | paper (r : List (Str × Option Int)) (n : Int)
def Stl.kd : Stl → Str
  | .story .. => "story"
  | .paper .. => "paper"
def Stl.no : Stl → Int
  | .story .. => 0
  | .paper _ n => n
def Stl.ds (K : PySem.W.Frag) : Stl → List D
  | .story r => [dS "story", dLo K (dT3 K dS dI (dWy K)) r]
  | .paper r n => [dS "paper", dLo K (dT2 K dS (dO dI)) r, dI n]
def dStl (K : PySem.W.Frag) (w : Stl) : D := dTup K (w.ds K)
section
variable {G : Cfg} {C : Sc} {Γ : Fr} {O : Own} {a : Expr} {pos p1 : Pos} {j : Nat} {w : Stl}
end
section
variable {G : Cfg} {C : Sc} {O : Own} {i j : Bool}
end
end Kn
namespace Kn
open PySem PySem.Spec L2
structure DefA (G : Cfg) (g x : Str) (st : Stmt) : Prop where
  ex : ∃ (f : Addr) (fd : FuncData), FunD G.K x x (defArgs st) (defBody st) (defScope st) [] [] f fd ∧ G.mg g = some (.ref f)
theorem DefA.callee {G : Cfg} {g x : Str} {st : Stmt} (d : DefA G g x st) {N ps : List Str} {k : Nat} {S : SpecD} (sc : FnScope N ps (defScope st)) (len : ∀ ds O rk, S ds O rk → ds.length = ps.length)
    (hbind : ∀ (kV doc pm : Value) (an : Option Addr) (cdv ct : Value) (us : List Value), us.length = ps.length → bindArgs (PySem.W.fnOf x x (defArgs st) (defBody st) (defScope st) .none kV doc pm an cdv ct) ⟨us, []⟩ = pure (ps.zip us))
    (hb : ∀ ds O rk, S ds O rk → ∃ (S1 R : Type) (ek : Ek S1 R) (r : R), SS G ⟨k, N, defScope st, true, true⟩ (defBody st) (frame0 N ds) O ek (.rt r) ∧ ek.rs r = rk) : Callee G (k + 1) g S := by
  obtain ⟨f, fd, F, e⟩ := d.ex
  exact callee_of (fn_ok F sc len hb) e F.kp (F.bindsN hbind)
section
variable {G : Cfg} {C : Sc} {Γ : Fr} {O : Own} {a : Expr} {pos p1 p2 p3 : Pos} {j : Nat} {xs : List Int}
end
end Kn
namespace Kn
open PySem PySem.Spec L2
end Kn
namespace Kn
open PySem PySem.Spec L2
instance : DecidableEq Stl
  | .story r, .story s => if h : r = s then .isTrue (by rw [h]) else .isFalse fun e => h (by cases e; rfl)
  | .paper r n, .paper s m => if h : r = s ∧ n = m then .isTrue (by rw [h.1, h.2]) else .isFalse fun e => h (by cases e; exact ⟨rfl, rfl⟩)
  | .story _, .paper _ _ => .isFalse fun e => nomatch e
  | .paper _ _, .story _ => .isFalse fun e => nomatch e
def Stl.len : Stl → Int
  | .story _ => 2
  | .paper _ _ => 3
section
variable {G : Cfg} {C : Sc} {Γ : Fr} {O : Own} {S1 R : Type} {kk : Ek S1 R} {oo : Out S1 R} {e a : Expr} {es : List Expr} {d d' : D} {ds ds' : List D} {ss : List Stmt} {pos p1 p2 : Pos} {x : Str} {i j k n : Nat} {p : Addr} {od : OD} {b : Bool} {w : Stl}
theorem ss_dropO {c : Addr × OD} (h : SS G C ss Γ O kk oo) : SS G C ss Γ (c :: O) kk oo := .mk fun X cc W tk F σ H hh D m => h.run X cc W tk F σ H ⟨hh.fr, hh.ho.drop⟩ D m
end
end Kn
namespace Kn
open PySem PySem.Spec L2 PyProof.Rows
def ExcO (cls : Value) (d : Option Addr) (a : Addr) : HO := .ext fun h => ∃ (oe : Obj) (vs : Array Value), h.get? a = some oe ∧ Zc cls d oe ∧ oe.data = .fields vs
theorem excO_ok {P : Program} {w : World} {H : Hp} {h : Heap} {a : Addr} {cls : Value} {d : Option Addr} {oe : Obj} {vs : Array Value} (e : h.get? a = some oe) (z : Zc cls d oe) (dt : oe.data = .fields vs) : ObjOk P w H h a (ExcO cls d a) :=
  ⟨⟨oe, vs, e, z, dt⟩, ⟨oe, e⟩, fun _ _ ⟨o, v, q, r⟩ k => ⟨o, v, k o q, r⟩⟩
section
variable {X : Cx} {pins : List (Addr × Obj)} {σ : L2.St} {H : Hp} {sI s s' : Shared} {B : Heap} {a : Addr} {o : HO}
theorem landX (I : Inv X pins σ H sI) (nb : ∀ b u, sI.heap.get? b = some u → b ∉ frs X.stack → B.get? b = some u) (st : B.StaysIn s'.heap) (up : sI.heap.UpToSlots s'.heap) (os : s'.os = sI.os) (ag : AllBare s'.gens)
    (an : sI.heap.get? a = none) (na : H a = none) (new : ObjOk X.prog X.w (upd H a o) s'.heap a o) : Inv X pins σ (upd H a o) s' := by
  have nf : ∀ b ∈ frs X.stack, ∀ u, sI.heap.get? b = some u → ∃ sl, s'.heap.get? b = some { u with slots := sl } := fun b hb u e => by
    obtain ⟨_, u2, e2, hd⟩ := I.stack.mem hb
    rw [e] at e2; cases e2
    exact up b u e hd
  have ne : ∀ b u, sI.heap.get? b = some u → b ≠ a := fun b u e z => by rw [z, an] at e; cases e
  have hok : HOk X.prog X.w (upd H a o) s'.heap := fun b u e => by
    by_cases hb : b = a
    · subst hb
      rw [upd_same] at e
      cases e
      exact new
    · rw [upd_ne hb] at e
      exact (((I.inGround nb).kept st) b u e).stay (fun _ _ _ q => q) (fun c q => by rw [upd_ne (ne_of_none q na)]; exact q) fun c xs q => by rw [upd_ne (ne_of_none q na)]; exact q
  have J := I.call (ch := []) (h' := s'.heap) (g' := s'.gens) (t' := s'.toks) (d' := s'.drawn) (H' := upd H a o)
    ⟨fun b u e _ hb _ => st b u (nb b u e hb), fun b u e _ hb _ => nf b hb u e, fun b u e n _ => (by rw [upd_ne (ne b u e)]; exact n), fun b u e _ => (by
      by_cases hb : b ∈ frs X.stack
      · obtain ⟨sl, q⟩ := nf b hb u e
        exact ⟨_, q⟩
      · exact ⟨u, st b u (nb b u e hb)⟩), fun b xs e => (by rw [upd_ne (ne_of_none e na)]; exact e), fun b u xs e => (by rw [upd_ne (ne_of_none e na)]; exact e), fun b ps e => ⟨#[], by rw [upd_ne (ne_of_none e na), e]; simp⟩⟩
    hok ag (fun _ z => nomatch z)
  obtain ⟨a1, a2, a3, a4, a5⟩ := s'
  have e5 : a5 = sI.os := os
  subst e5
  exact J
theorem inSuite {a : Addr} (I : Inv X pins σ H s) : Inv (X.suite a (X.pn ++ pins)) [] σ H s :=
  ⟨I.ok.suite _ _, I.os, I.bare, I.base, I.loc, I.cell, I.free, I.freeC, fun p hp => I.pin p (by rw [List.append_nil] at hp; exact hp), I.hok, I.len⟩
theorem ofSuite {a : Addr} {pn' : List (Addr × Obj)} (I : Inv (X.suite a (X.pn ++ pins)) pn' σ H s) (ok : X.Ok) : Inv X pins σ H s :=
  ⟨ok, I.os, I.bare, I.base, I.loc, I.cell, I.free, I.freeC, fun p hp => I.pin p (List.mem_append_left _ hp), I.hok, I.len⟩
end
def tyEx (K : PySem.W.Frag) (c : Value) (i : Nat) (ts : Addr → Value → Option Addr → TS) (D : Ends) : WX := fun cls d σ H =>
  PySem.W.exmOne K cls c = some true ∧ ∀ a, H a = none → ts a cls d { nx := fun σ' H' => D.nx (σ'.set i none) H', rt := D.rt, bk := fun σ' H' => D.bk (σ'.set i none) H', ct := fun σ' H' => D.ct (σ'.set i none) H' } (σ.set i (some (.ref a))) (upd H a (ExcO cls d a))
section
variable {X : Cx} {x n : Str} {c : Value} {i : Nat} {body suite : List Stmt} {b₀ : Stmt} {np pos pos' : Pos} {tb : WX → TS} {ts : Addr → Value → Option Addr → TS}
theorem ps_tryX (hs : X.stack = X.env :: X.outer) (hf : X.env.frame = some X.env.locals) (hN : X.N.Nodup) (hi : X.N[i]? = some n) (hln : X.env.kindOf n = some .local) (hc : Names X x c)
    (hb : ∀ (W : WX) (pn : List (Addr × Obj)) (xe : Value → Shared → Prop), Takes (X.tr pn xe) W → PassesOwn (model X.prog X.w) X.A X.env xe → PSs (X.tr pn xe) body (tb W))
    (hsu : ∀ (a : Addr) (cls : Value) (d : Option Addr) (pn : List (Addr × Obj)), PSs (X.suite a pn) (b₀ :: suite) (ts a cls d)) :
    PS X (.Try body [.ExceptHandler (some (.Name x np)) (some n) (b₀ :: suite) pos'] [] [] pos) (fun D σ H => tb (tyEx X.K c i ts D) D σ H) := by
  refine ⟨fun pins s σ H D I h => ?_⟩
  have ok := I.ok
  have hfr : X.A.frames = some (X.env :: X.outer) := by rw [ok.frames, hs]
  refine wpAny_Try_except ?_
  refine wpAny_mono ((hb (tyEx X.K c i ts D) (X.pn ++ pins) (fun e s₁ => wpAny (model X.prog X.w) X.A (noteFrame e X.env) (fun _ s₂ => wpAny (model X.prog X.w) X.A (setFlight e none) (fun _ s₃ =>
    wpAny (model X.prog X.w) X.A (handleBy e X.env [.ExceptHandler (some (.Name x np)) (some n) (b₀ :: suite) pos']) (SP X pins D) X.xe s₃) X.xe s₂) X.xe s₁) (fun u s' xx => ?_) PassesOwn.looking).run [] s σ H D (I.toTry _) h) (fun f s1 hsp => ?_) (fun _ _ z => z)
  · obtain ⟨a, B, sI, pins', σ', H', cls, d, rfl, J0, nb, up, sky0, na, os, ag, hb1, hyes⟩ := xx
    have J : Inv X pins σ' H' sI := J0.ofTry ok
    have sky : Sky B (X.env :: X.outer) a (Zc cls d) X.env.locals s'.heap := by rw [← hs]; exact sky0
    show wpAny (model X.prog X.w) X.A (noteFrame (.ref a) X.env) _ _ _
    refine Sky.land Zc.steady hfr hf sky fun h3 fl3 up3 => ?_
    obtain ⟨oe3, vs3, he3, hz3, hd3⟩ := fl3.there
    have nfr : a ∉ frs X.stack := by
      rw [hs]
      intro hm
      obtain ⟨_, o', e', hnf⟩ := fl3.2.2.1.mem hm
      rw [he3] at e'; cases e'
      exact hnf _ hd3
    have an : sI.heap.get? a = none := by
      cases q : sI.heap.get? a with
      | none => rfl
      | some u =>
        have z := nb a u q nfr
        rw [fl3.2.1] at z; cases z
    have J3 : Inv X pins σ' H' { s' with heap := h3 } := J.landed nb fl3.1 (up.trans up3) os ag
    have S3 := inSuite (a := a) J3
    refine wpAny_handleBy_cons (codeAny_handlers_test ?_) (by intro q; cases q)
    have LT : PySem.W.Looks (model X.prog X.w) h3 (typeOf (.ref a)) cls := fun A Q E s k q => wpAny_typeOf_ref (k _ _ he3) (by rw [hz3.1]; exact q)
    have LM := PySem.W.exm_one (M := model X.prog X.w) (J3.kIn) LT hb1
    have test : ∀ {Q : Value → Shared → Prop} {E : Value → Shared → Prop}, Q c { s' with heap := h3 } → wpAny (model X.prog X.w) (X.A.mark (some (.ref a))) (eval (.Name x np) X.env) Q E { s' with heap := h3 } := fun {Q E} q => by
      obtain ⟨hg, hdbg, hm | ⟨hm, hv, hnn⟩⟩ := hc
      · exact ld_glob (X := X.suite a (X.pn ++ pins)) S3 hg hm q hdbg
      · exact ld_blt (X := X.suite a (X.pn ++ pins)) S3 hg hm hv q hnn hdbg
    refine test (LM.here ?_)
    refine codeAny_handlers_suite_as ?_
    refine HandSPX.lands_againZ fl3 fun h4 fl4 up4 => ?_
    obtain ⟨oe4, vs4, he4, hz4, hd4⟩ := fl4.there
    have J4 : Inv X pins σ' (upd H' a (ExcO cls d a)) { s' with heap := h4 } := landX J nb fl4.1 ((up.trans up3).trans up4) os ag an na (excO_ok he4 hz4 hd4)
    have S4 := inSuite (a := a) J4
    refine store_ok (X := X.suite a (X.pn ++ pins)) (v := .ref a) S4 hN hi (.inl hln) rfl (fun s5 S5 => ?_) (.inr hln)
    refine wpAny_mono ((hsu a cls d (X.pn ++ pins)).run [] s5 _ _ _ S5 (hyes a na)) (fun f s6 hsp => ?_) (fun _ _ z => False.elim z)
    have fin : ∀ {σ6 : L2.St} {H6 : Hp} {Q : Shared → Prop}, Inv (X.suite a (X.pn ++ pins)) [] σ6 H6 s6 → (∀ s7, Inv X pins (σ6.set i none) H6 s7 → Q s7) →
        wpAny (model X.prog X.w) X.A (do bindName X.env n .none; unbindBehindTheSuite X.env n pos') (fun _ s7 => Q s7) X.xe s6 := fun {σ6 H6 Q} S6 hq => gone_ok (ofSuite S6 ok) hN hi hln hq
    cases f with
    | next =>
      obtain ⟨σ6, H6, S6, q6⟩ := hsp
      exact fin S6 fun s7 J7 => ⟨_, _, J7, q6⟩
    | brk =>
      obtain ⟨σ6, H6, S6, q6⟩ := hsp
      exact fin S6 fun s7 J7 => ⟨_, _, J7, q6⟩
    | cont =>
      obtain ⟨σ6, H6, S6, q6⟩ := hsp
      exact fin S6 fun s7 J7 => ⟨_, _, J7, q6⟩
    | ret u =>
      obtain ⟨v6, σ6, H6, S6, r6, q6⟩ := hsp
      exact fin S6 fun s7 J7 => ⟨_, _, _, J7, r6, q6⟩
  · cases f with
    | next =>
      obtain ⟨σ1, H1, J1, q⟩ := hsp
      exact wpAny_execs_nil ⟨σ1, H1, J1.ofTry ok, q⟩
    | brk =>
      obtain ⟨σ1, H1, J1, q⟩ := hsp
      exact ⟨σ1, H1, J1.ofTry ok, q⟩
    | cont =>
      obtain ⟨σ1, H1, J1, q⟩ := hsp
      exact ⟨σ1, H1, J1.ofTry ok, q⟩
    | ret u =>
      obtain ⟨v, σ1, H1, J1, r, q⟩ := hsp
      exact ⟨v, σ1, H1, J1.ofTry ok, r, q⟩
end
structure Xd where
  n : Str
  fs : List Str := []
  ds : List D := []
def xok (G : Cfg) (x : Xd) (F : Hp) (c : Value) (d : Option Addr) : Prop := ∃ C, G.mg x.n = some (.ref C) ∧ c = .ref C ∧ match x.fs with
  | [] => d = none
  | f :: fs => ∃ dd vs, d = some dd ∧ F dd = some (.xd ((f :: fs).zip vs)) ∧ vs.length = (f :: fs).length ∧ AllD F x.ds vs
theorem xok_mono {G : Cfg} {x : Xd} {F F' : Hp} {c : Value} {d : Option Addr} (e : Gw F F') (h : xok G x F c d) : xok G x F' c d := by
  obtain ⟨C, h1, h2, h3⟩ := h
  refine ⟨C, h1, h2, ?_⟩
  cases q : x.fs with
  | nil => rw [q] at h3; exact h3
  | cons f fs =>
    rw [q] at h3
    obtain ⟨dd, vs, k1, k2, k3, k4⟩ := h3
    exact ⟨dd, vs, k1, e _ _ k2, k3, AllD.mono e k4⟩
def dX (G : Cfg) (x : Xd) : D := ⟨fun F v => ∃ a c d, v = .ref a ∧ F a = some (ExcO c d a) ∧ xok G x F c d, fun e ⟨a, c, d, h1, h2, h3⟩ => ⟨a, c, d, h1, e _ _ h2, xok_mono e h3⟩⟩
def RK.exc (G : Cfg) (x : Xd) (O : Own) : RK := ⟨fun _ _ _ => False, fun _ z => z, fun F c d H => ∃ F', Gw F F' ∧ HoldO F' O H ∧ xok G x F' c d, fun e ⟨F', e2, h, q⟩ => ⟨F', e.trans e2, h, q⟩⟩
def XD.at (G : Cfg) (x : Xd) (Γ : Fr) (O : Own) : XD := ⟨fun F c d σ H => ∃ F', Gw F F' ∧ Hold F' Γ O σ H ∧ xok G x F' c d, fun e ⟨F', e2, h, q⟩ => ⟨F', e.trans e2, h, q⟩⟩
def kx {S R : Type} (G : Cfg) (x : Xd) (Γ : Fr) (O : Own) : Ek S R := ⟨fun _ => ⟨fun _ _ _ => False, fun _ z => z⟩, fun _ => ⟨fun _ _ _ => False, fun _ z => z, noXo, fun _ z => z⟩, fun _ => XD.at G x Γ O⟩
def exn0 : Exn := ("", [])
structure EX (G : Cfg) (C : Sc) (e : Expr) (Γ : Fr) (O : Own) (x : Xd) : Prop where
  run : ∀ X, InC G C X → ∀ W, Takes X W → ∀ (F : Hp) (σ : L2.St) (H : Hp), Hold F Γ O σ H → (∀ F' c d H', Gw F F' → Hold F' Γ O σ H' → xok G x F' c d → W c d σ H') → ∀ Q : VK, WE X e σ H Q
def Caught (G : Cfg) (x y : Str) : Prop := ∃ C c, G.mg x = some (.ref C) ∧ G.mg y = some (.ref c) ∧ PySem.W.exmOne G.K (.ref C) (.ref c) = some true
theorem mgs {G : Cfg} {x : Str} {a b : Addr} (h : G.mg x = some (.ref a)) (k : G.mg x = some (.ref b)) : a = b := by
  rw [h] at k
  cases k
  rfl
abbrev Sc.cold (C : Sc) : Sc := ⟨C.k, C.N, C.sc, C.top, false⟩
theorem InC.tr {G : Cfg} {C : Sc} {X : Cx} (c : InC G C X) {pn : List (Addr × Obj)} {xe : Value → Shared → Prop} (po : PassesOwn (model X.prog X.w) X.A X.env xe) : InC G C (X.tr pn xe) := ⟨c.p, c.w, c.K, c.mg, c.base, c.n, c.sc, c.calm, c.un, c.dp, c.hdl, c.st, po, c.fn⟩
theorem InC.suite {G : Cfg} {C : Sc} {X : Cx} (c : InC G C X) {a : Addr} {pn : List (Addr × Obj)} : InC G C.cold (X.suite a pn) := ⟨c.p, c.w, c.K, c.mg, c.base, c.n, c.sc, fun z => (Bool.false_ne_true z).elim, c.un, c.dp, fun z => (Bool.false_ne_true z).elim, c.st, PassesOwn.never, c.fn⟩
section
variable {G : Cfg} {C : Sc} {Γ Γ1 : Fr} {O O1 : Own} {S1 S2 R R2 B : Type} {kk : Ek S1 R} {oo : Out S1 R} {e a b : Expr} {es : List Expr} {d d' : D} {ds ds' : List D} {ss suite body : List Stmt} {b₀ : Stmt} {pos pos' np p1 p2 p3 : Pos} {x y n m : Str} {i j k : Nat} {xd : Xd} {S : SpecD}
theorem fr_gone (i : Nat) {F : Hp} {σ : L2.St} (h : FrOk F Γ σ) : FrOk F (Γ.set i none) (σ.set i none) := by
  refine ⟨by rw [List.length_set, List.length_set]; exact h.1, fun k d e => ?_⟩
  by_cases hk : i = k
  · subst hk
    by_cases hl : i < Γ.length
    · rw [List.getElem?_set_self hl] at e; cases e
    · rw [List.getElem?_eq_none (by rw [List.length_set]; omega)] at e; cases e
  · rw [List.getElem?_set_ne hk] at e ⊢
    exact h.2 k d e
theorem ex_call [Calm C] (cal : Callee G k x S) (hk : k ≤ C.k) (g : Glo C x) (hS : S ds O (RK.exc G xd O)) (ha : A G C (e :: es) Γ O ds) (hs : ∀ env, starEach (e :: es) env = (false, eval e env) :: starEach es env) : EX G C (.Call (.Name x p1) (e :: es) [] pos) Γ O xd := .mk fun X c W tk F σ H hh q Q => by
  obtain ⟨f, fd, ps, Fn, gx, kp, bi⟩ := cal.ex
  have Fn' : FnOk X.prog X.w X.K X.mg X.base (CX X.prog X.w) k f fd ps (spD S) := by rw [c.p, c.w, c.K, c.mg, c.base]; exact Fn
  refine we_of (pe_callS (E := L2.WE W) Fn' (c.room.mono hk) (c.gl g) (by rw [c.mg]; exact gx) (by rw [c.K]; exact kp) (by rw [c.K]; exact bi) (fun σ => passAt tk σ) pa_can g.2.1 (hs X.env) ?_) (ha.run X c F σ H hh _ fun F1 H1 vs e1 h1 d1 => ?_)
  · have a := ha.bt pos X.env
    rw [hs] at a
    unfold backTo at a ⊢
    rw [List.map_cons, List.any_cons] at a
    exact (Bool.or_eq_false_iff.mp a).2
  · exact ⟨ds, O, _, F1, hS, h1.ho, d1, fun _ _ z => z.elim, fun c d H' ⟨F2, e2, h2, hx⟩ => q F2 c d H' (e1.trans e2) ⟨h1.fr.mono e2, h2⟩ hx⟩
theorem hm_try : ∀ F D W, meet (kx (S := S1) (R := R) G xd Γ O) F D W (.ex exn0) → ∀ F' c d σ H, Gw F F' → Hold F' Γ O σ H → xok G xd F' c d → W c d σ H := fun F D W m F' c d σ H e h q => m c d σ H ⟨F', e, h, q⟩
theorem hm_out {r : R} (hr : kk.rs r = RK.exc G xd O) : ∀ F D W, meet kk F D W (.rt r) → ∀ F' c d σ H, Gw F F' → Hold F' Γ O σ H → xok G xd F' c d → W c d σ H := fun F D W m F' c d σ H e h q => m.2 c d σ H (by rw [hr]; exact ⟨F', e, h.ho, q⟩)
theorem ss_tryX {o1 : Out S2 R} {g : S2 → Out S1 R} (Γ2 : S2 → Fr) (O2 : S2 → Own) (top : C.top = true) (nd : C.N.Nodup) (hi : C.N[i]? = some n) (hl : C.sc.names.lookup n = some .local) (gy : Glo C y) (ct : Caught G xd.n y)
    (hb : SS G C body Γ O (kx (S := Empty) (R := Empty) G xd Γ1 O1) (.ex exn0)) (hu : SS G C.cold (b₀ :: suite) (Γ1.set i (some (dX G xd))) O1 (kk.to fun s => SD.of (Γ2 s) (O2 s)) o1)
    (hq : match o1 with
      | .nx _ => True
      | .rt r => (kk.rs r).NoX
      | .ex _ => False) (hr : ∀ s, o1 = .nx s → SS G C ss ((Γ2 s).set i none) (O2 s) kk (g s)) : SS G C (.Try body [.ExceptHandler (some (.Name y np)) (some n) (b₀ :: suite) pos'] [] [] pos :: ss) Γ O kk (o1.bind g) := .mk fun X c W tk F σ H hh D m => by
  obtain ⟨Cx, cy, h1, h2, h3⟩ := ct
  obtain ⟨st1, st2⟩ := c.st top
  have hln : X.env.kindOf n = some .local := by
    show X.env.scope.names.lookup n = _
    rw [c.sc]; exact hl
  refine wss_of (pss_cons (ps_tryX (X := X) (c := .ref cy) (i := i) (tb := fun W' => fun D' σ' H' => ∀ pn xe, Takes (X.tr pn xe) W' → PassesOwn (model X.prog X.w) X.A X.env xe → WSs (X.tr pn xe) body D' σ' H')
    (ts := fun a cls d => fun D' σ' H' => ∀ pn, WSs (X.suite a pn) (b₀ :: suite) D' σ' H') st1 st2 (by rw [c.n]; exact nd) (by rw [c.n]; exact hi) hln ⟨c.gl gy, gy.2.1, .inl (by rw [c.mg]; exact h2)⟩
    (fun W' pn xe tk' po' => ⟨fun pins s σ' H' D' I h => h pn xe tk' po' pins s I⟩) (fun a cls d pn => ⟨fun pins s σ' H' D' I h => h pn pins s I⟩)) pss_can) ?_
  show ∀ pn xe, Takes (X.tr pn xe) _ → _ → WSs (X.tr pn xe) body _ σ H
  intro pn xe tk' po'
  refine hb.run _ (c.tr po') _ tk' F σ H hh _ fun cls d σ1 H1 hx => ?_
  obtain ⟨F1, e1, hh1, Cz, k1, k2, k3⟩ := hx
  subst k2
  refine ⟨by rw [c.K]; have := mgs h1 k1; subst this; exact h3, fun a na pn2 => ?_⟩
  obtain ⟨h4, e2⟩ := hh1.ho.laid (o := ExcO (.ref Cz) d a) na
  have hx2 : xok G xd (upd F1 a (ExcO (.ref Cz) d a)) (.ref Cz) d := xok_mono e2 ⟨Cz, k1, rfl, k3⟩
  have hh2 : Hold (upd F1 a (ExcO (.ref Cz) d a)) (Γ1.set i (some (dX G xd))) O1 (σ1.set i (some (.ref a))) (upd H1 a (ExcO (.ref Cz) d a)) := Hold.set i ⟨hh1.fr.mono e2, h4⟩ ⟨a, _, d, rfl, upd_same, hx2⟩
  refine hu.run _ (c.suite) (fun _ _ _ _ => False) (fun u s' xx => by
    obtain ⟨_, _, _, _, _, _, _, _, _, _, _, _, _, _, _, _, z⟩ := xx
    exact z.elim) _ _ _ hh2 _ ?_
  have e3 : Gw F (upd F1 a (ExcO (.ref Cz) d a)) := e1.trans e2
  cases o1 with
  | nx s => exact fun σ3 H3 ⟨F3, e4, h5⟩ => (hr s rfl).run X c W tk F3 _ H3 ⟨fr_gone i h5.fr, h5.ho⟩ D (meet.mono (e3.trans e4) m)
  | rt r => exact ⟨fun v H3 q => (meet.mono e3 m).1 v H3 q, fun _ _ _ _ z => hq _ _ _ _ z⟩
  | ex e => exact hq.elim
end
end Kn
namespace Kn
open PySem PySem.Spec L2 PyProof.Rows
section
variable {G : Cfg} {C : Sc} {Γ : Fr} {O : Own} {pos : Pos} {x y : Str} {t : String} {xd : Xd} {b : Bool}
end
section
variable {K : PySem.W.Frag} {P : Program} {w : World} {mg : Str → Option Value} {base h : Heap} {x y : Str} {t : String} {b : Bool}
theorem caught_of (g : mg x = some (.ref (He.ga K x))) (g2 : mg y = some (.ref (He.ga K y))) (c : (He.Fa.exm x y true).ok K = true) : Caught ⟨P, w, K, mg, base⟩ x y := ⟨_, _, g, g2, He.exm_ok c⟩
end
section
variable {G : Cfg} {C : Sc} {Γ : Fr} {O : Own} {S1 R B : Type} {kk : Ek S1 R} {oo : Out S1 R} {a b c : Expr} {ds ds' : List D} {ta ss : List Stmt} {pos : Pos} {α : Type} {f : α → D}
theorem ss_gone {r : R} (h : T G C c Γ O true) (h1 : SS G C ta Γ O kk (.rt r)) : SS G C (.If c ta [] pos :: ss) Γ O kk (.rt r) := .mk fun X c0 W tk F σ H hh D mm =>
  wss_of (t := tSeq (tIfS (WT X c) (WSs X ta) tNext) (WSs X ss)) (pss_cons (ps_if pt_can pss_can pss_nil) pss_can) (h.run X c0 F σ H hh _ fun F1 H1 e1 h3 =>
    iteT (h1.run X c0 W tk F1 σ H1 h3 _ (meet.mono e1 mm)))
end
end Kn
namespace Kn
open PySem PySem.Spec L2
def lo {α β : Type} (o : Option α) (n : β) (f : α → β) : β := match o with
  | none => n
  | some x => f x
section
variable {G : Cfg} {C : Sc} {Γ Γ' : Fr} {O : Own} {S1 R B : Type} {kk : Ek S1 R} {oo : Out S1 R} {e a b c : Expr} {es : List Expr} {d d' : D} {ds : List D} {ss ta tb body : List Stmt} {pos p1 p2 p3 : Pos} {x : Str} {α : Type} {f : α → OD} {n m i k : Nat} {p q : Addr} {od : OD}
end
end Kn
namespace Kn
open PySem PySem.Spec L2
end Kn
namespace Kn
open PySem PySem.Spec L2
section
variable {α β : Type}
theorem app_le {c : Bool} {s : List α} {x : α} : (if c = true then lt (s ++ [x]) fun y => y else s).length ≤ s.length + 1 := by
  split
  · show (s ++ [x]).length ≤ _; rw [List.length_append]; exact Nat.le_refl _
  · omega
end
end Kn
namespace Kn
open PySem PySem.Spec L2 RT PyProof.Rows PySem.W
section
variable {prog : Program} {w : World} {Ar : Around} {E0 : Value → Shared → Prop} {sh : Shared}
end
section
variable {X : Cx}
end
section
variable {G : Cfg} {C : Sc} {Γ : Fr} {O : Own} {a : Expr} {p1 p2 p3 p4 : Pos} {α : Type} {f : α → D}
end
end Kn
namespace Kn
open PySem PySem.Spec L2
def SD.own (S : Own → Prop) : SD := ⟨fun F _ H => ∃ F' O', S O' ∧ Gw F F' ∧ HoldO F' O' H, fun e ⟨F', O', h1, e2, h2⟩ => ⟨F', O', h1, e.trans e2, h2⟩⟩
section
variable {G : Cfg} {C : Sc} {Γ : Fr} {O : Own} {S1 R B : Type} {kk : Ek S1 R} {oo : Out S1 R} {e a b c o : Expr} {es : List Expr} {d da db : D} {ds fs : List D} {ss ta : List Stmt} {pos p1 p2 p3 : Pos} {x f m y : Str} {α β : Type} {ns : List Str} {S : SpecD} {k n : Nat} {p : Addr} {od : OD}
theorem ss_pull {q : Addr × OD} (hk : O[n]? = some q) (h : SS G C ss Γ (q :: O.eraseIdx n) kk oo) : SS G C ss Γ O kk oo := .mk fun X cc W tk F σ H hh D mm => h.run X cc W tk F σ H ⟨hh.fr, hh.ho.pull (p := q.1) (od := q.2) hk⟩ D mm
end
end Kn
namespace Kn
open PySem PySem.Spec L2
abbrev SightV := Str × Int × List Str
abbrev TalkV := Int × Str × Str × Str
inductive Dd where
  | see (s : SightV)
  | talk (t : TalkV)
  | say (y : Sy)
  | unsay (n : Int)
instance : Inhabited Dd := ⟨.unsay 0⟩
def Dd.kd : Dd → Str
  | .see _ => "see"
  | .talk _ => "talk"
  | .say _ => "say"
  | .unsay _ => "unsay"
def Dd.tk : Dd → TalkV
  | .talk t => t
  | _ => default
def Dd.sy : Dd → Sy
  | .say y => y
  | _ => default
def Dd.no : Dd → Int
  | .unsay n => n
  | _ => 0
def Dd.ds (K : PySem.W.Frag) : Dd → List D
  | .see s => [dS "see", dT3 K dS dI (dVt K dS) s]
  | .talk t => [dS "talk", dT4 K dI dS dS dS t]
  | .say y => [dS "say", dSy K y]
  | .unsay n => [dS "unsay", dI n]
section
variable {G : Cfg} {C : Sc} {Γ : Fr} {O : Own} {a : Expr} {w : Dd} {p1 pos : Pos} {n : Nat}
end
end Kn
namespace Kn
open PySem PySem.Spec L2
section
variable {G : Cfg} {C : Sc} {Γ : Fr} {O : Own} {α β γ δ ε : Type} {f : α → D} {g : β → D} {h : γ → D} {i : δ → D} {j : ε → D} {a : Expr} {p1 pos : Pos}
end
end Kn
namespace Kn
open PySem PySem.Spec PyProof.Rows L2
abbrev NE := NestedKey × Addr × V
abbrev NX := NestedKey × Addr × Value
def entN (p : NE) (q : NX) : Prop := p.1 = q.1 ∧ p.2.1 = q.2.1 ∧ RelV p.2.2 q.2.2
def nDict (P : Program) (w : World) (a : Addr) (us : List NE) (h : Heap) : Prop :=
  us.length ≤ sizeLine ∧ (a == sysModules) = false ∧ ∃ xs : List NX, Paired entN us xs ∧ ∃ o es ep, h.get? a = some o ∧ o.ExactDict ∧ o.data = .dict es ep ∧ es.toList = xs.map (entryOfKey (nestedKind P w)) ∧ (xs.map (·.1)).Nodup
def hoN (P : Program) (w : World) (a : Addr) (us : List NE) : HO := .ext (nDict P w a us)
def NK (X : Cx) (H : Hp) (k : NestedKey) (b : Addr) : Prop := k.depth ≤ 8 ∧ ∀ pins σ s, Inv X pins σ H s → NestedIs s.heap k (.ref b)
def NDic (X : Cx) (H : Hp) (a : Addr) (us : List NE) : Prop := Rd H a (hoN X.prog X.w a us) ∧ ∀ u ∈ us, NK X H u.1 u.2.1
def valN (us : List NE) (k : NestedKey) : Option V := (us.find? fun u => decide (u.1 = k)).map (·.2.2)
def putN (us : List NE) (k : NestedKey) (b : Addr) (v : V) : List NE := if (us.any fun u => decide (u.1 = k)) = true then us.map (fun u => if u.1 = k then (u.1, u.2.1, v) else u) else us ++ [(k, b, v)]
section
variable {X : Cx} {pins : List (Addr × Obj)} {σ : L2.St} {H : Hp} {s : Shared} {a b : Addr} {us : List NE} {k : NestedKey} {A : Around} {E : Value → Shared → Prop}
theorem nd_ok (I : Inv X pins σ H s) (h : Rd H a (hoN X.prog X.w a us)) : nDict X.prog X.w a us s.heap := (show ObjOk X.prog X.w H s.heap a (hoN X.prog X.w a us) from h.ok I.hok).1
theorem paired_mem {α β : Type} {G : α → β → Prop} {l₁ : List α} {l₂ : List β} (h : Paired G l₁ l₂) : ∀ b ∈ l₂, ∃ a ∈ l₁, G a b := by
  induction h with
  | nil => intro b hb; cases hb
  | @cons x y l₁ l₂ r t ih =>
    intro b hb
    rcases List.mem_cons.mp hb with rfl | hb
    · exact ⟨x, List.mem_cons_self, r⟩
    · obtain ⟨z, hz, q⟩ := ih b hb
      exact ⟨z, List.mem_cons_of_mem _ hz, q⟩
theorem NDic.of (I : Inv X pins σ H s) (h : NDic X H a us) : us.length ≤ sizeLine ∧ (a == sysModules) = false ∧ ∃ xs, Paired entN us xs ∧ s.heap.DictOfH (nestedKind X.prog X.w) a xs := by
  obtain ⟨z, hd, xs, r, o, es, ep, e, hx, hdt, he, hn⟩ := nd_ok I h.1
  refine ⟨z, hd, xs, r, o, es, ep, e, hx, hdt, he, fun x hx => ?_, hn⟩
  obtain ⟨u, hu, q⟩ := paired_mem r x hx
  obtain ⟨q1, q2⟩ := h.2 u hu
  rw [← q.1, ← q.2.1]
  exact ⟨q2 pins σ s I, q1⟩
theorem NK.is (I : Inv X pins σ H s) (h : NK X H k b) : (nestedKind X.prog X.w).is s.heap k b := ⟨h.2 pins σ s I, h.1⟩
end
def NIs (K : PySem.W.Frag) (d : D) (k : NestedKey) : Prop := ∀ F H v, Gw F H → d.ok F v → ∀ (X : Cx) (pins : List (Addr × Obj)) (σ : L2.St) (s : Shared) (u : Value), X.K = K → Inv X pins σ H s → RelV v u → NestedIs s.heap k u
structure NKey {κ : Type} (K : PySem.W.Frag) (kn : κ → NestedKey) (dk : κ → D) : Prop where
  inj : ∀ a b, kn a = kn b ↔ a = b
  dep : ∀ k, (kn k).depth ≤ 8
  ref : ∀ k F v, (dk k).ok F v → ∃ b, v = .ref b
  is : ∀ k, NIs K (dk k) (kn k)
section
variable {κ α : Type}
def AllN (F : Hp) (kn : κ → NestedKey) (dk : κ → D) (f : α → D) : List (κ × α) → List NE → Prop
  | [], [] => True
  | q :: kvs, u :: us => (u.1 = kn q.1 ∧ (dk q.1).ok F (.ref u.2.1) ∧ (f q.2).ok F u.2.2) ∧ AllN F kn dk f kvs us
  | _, _ => False
variable {F F' : Hp} {kn : κ → NestedKey} {dk : κ → D} {f : α → D}
theorem AllN.mono (e : Gw F F') : ∀ {kvs : List (κ × α)} {us : List NE}, AllN F kn dk f kvs us → AllN F' kn dk f kvs us
  | [], [], _ => trivial
  | _ :: _, _ :: _, h => ⟨⟨h.1.1, (dk _).mono e h.1.2.1, (f _).mono e h.1.2.2⟩, AllN.mono e h.2⟩
  | [], _ :: _, h => h.elim
  | _ :: _, [], h => h.elim
theorem AllN.length : ∀ {kvs : List (κ × α)} {us : List NE}, AllN F kn dk f kvs us → us.length = kvs.length
  | [], [], _ => rfl
  | _ :: _, _ :: _, h => by rw [List.length_cons, List.length_cons, AllN.length h.2]
  | [], _ :: _, h => h.elim
  | _ :: _, [], h => h.elim
theorem AllN.snoc {k : κ} {y : α} {b : Addr} {v : V} (hk : (dk k).ok F (.ref b)) (hv : (f y).ok F v) : ∀ {kvs : List (κ × α)} {us : List NE}, AllN F kn dk f kvs us → AllN F kn dk f (kvs ++ [(k, y)]) (us ++ [(kn k, b, v)])
  | [], [], _ => ⟨⟨rfl, hk, hv⟩, trivial⟩
  | _ :: _, _ :: _, h => ⟨h.1, AllN.snoc hk hv h.2⟩
  | [], _ :: _, h => h.elim
  | _ :: _, [], h => h.elim
theorem AllN.get : ∀ {kvs : List (κ × α)} {us : List NE} {i : Nat} {q : κ × α}, AllN F kn dk f kvs us → kvs[i]? = some q → ∃ u, us[i]? = some u ∧ u.1 = kn q.1 ∧ (dk q.1).ok F (.ref u.2.1) ∧ (f q.2).ok F u.2.2
  | [], [], _, _, _, e => by simp at e
  | _ :: _, u :: _, 0, _, h, e => by simp at e; subst e; exact ⟨u, rfl, h.1⟩
  | _ :: _, _ :: _, i + 1, q, h, e => by
    obtain ⟨u, h1, h2⟩ := AllN.get (i := i) (q := q) h.2 (by simpa using e)
    exact ⟨u, by simpa using h1, h2⟩
  | [], _ :: _, _, _, h, _ => h.elim
  | _ :: _, [], _, _, h, _ => h.elim
variable [DecidableEq κ]
theorem AllN.find {K : PySem.W.Frag} (nk : NKey K kn dk) {k : κ} : ∀ {kvs : List (κ × α)} {us : List NE}, AllN F kn dk f kvs us → (∀ a, dFind kvs k = some a → ∃ v, valN us (kn k) = some v ∧ (f a).ok F v) ∧ (dFind kvs k = none → valN us (kn k) = none)
  | [], [], _ => ⟨fun a h => (by cases h), fun _ => rfl⟩
  | q :: kvs, u :: us, h => by
    have ih := AllN.find nk (k := k) h.2
    unfold valN at ih ⊢
    by_cases e : q.1 = k
    · have e2 : u.1 = kn k := by rw [h.1.1, e]
      rw [List.find?_cons_of_pos (by simp [e2])]
      have ef : dFind (q :: kvs) k = some q.2 := by rw [dFind, if_pos e]
      rw [ef]
      exact ⟨fun a ha => by cases ha; exact ⟨_, rfl, h.1.2.2⟩, fun z => by cases z⟩
    · have e2 : ¬ u.1 = kn k := by rw [h.1.1]; exact fun z => e ((nk.inj _ _).mp z)
      rw [List.find?_cons_of_neg (by simp [e2])]
      have ef : dFind (q :: kvs) k = dFind kvs k := by rw [dFind, if_neg e]
      rw [ef]
      exact ih
  | [], _ :: _, h => h.elim
  | _ :: _, [], h => h.elim
theorem AllN.has {K : PySem.W.Frag} (nk : NKey K kn dk) {k : κ} {kvs : List (κ × α)} {us : List NE} (h : AllN F kn dk f kvs us) : (valN us (kn k)).isSome = dHas kvs k := by
  rw [dHas_find]
  cases hz : dFind kvs k with
  | none => rw [(h.find nk (k := k)).2 hz]; rfl
  | some t =>
    obtain ⟨u, hu, _⟩ := (h.find nk (k := k)).1 t hz
    rw [hu]; rfl
theorem AllN.any {K : PySem.W.Frag} (nk : NKey K kn dk) {k : κ} : ∀ {kvs : List (κ × α)} {us : List NE}, AllN F kn dk f kvs us → (us.any fun u => decide (u.1 = kn k)) = dHas kvs k
  | [], [], _ => rfl
  | q :: kvs, u :: us, h => by
    have ih := AllN.any nk (k := k) h.2
    show (decide (u.1 = kn k) || us.any _) = (decide (q.1 = k) || dHas kvs k)
    rw [ih, h.1.1, dec_iff (nk.inj _ _)]
  | [], _ :: _, h => h.elim
  | _ :: _, [], h => h.elim
theorem AllN.put {K : PySem.W.Frag} (nk : NKey K kn dk) {k : κ} {y : α} {b : Addr} {v : V} (hk : (dk k).ok F (.ref b)) (hv : (f y).ok F v) {kvs : List (κ × α)} {us : List NE} (h : AllN F kn dk f kvs us) : AllN F kn dk f (dPut kvs k y) (putN us (kn k) b v) := by
  unfold dPut putN
  rw [h.any nk]
  by_cases q : dHas kvs k = true
  · rw [if_pos q, if_pos q]
    clear q
    revert us
    induction kvs with
    | nil =>
      intro us h
      cases us with
      | nil => trivial
      | cons _ _ => exact h.elim
    | cons p kvs ih =>
      intro us h
      cases us with
      | nil => exact h.elim
      | cons u us =>
        rw [List.map_cons, List.map_cons]
        refine ⟨?_, ih h.2⟩
        by_cases e : p.1 = k
        · rw [if_pos e, if_pos (by rw [h.1.1, e])]
          exact ⟨h.1.1, h.1.2.1, hv⟩
        · rw [if_neg e, if_neg (by rw [h.1.1]; exact fun z => e ((nk.inj _ _).mp z))]
          exact h.1
  · rw [if_neg q, if_neg q]
    exact AllN.snoc hk hv h
end
section
variable {G : Cfg} {C : Sc} {Γ : Fr} {O : Own} {S1 R B : Type} {kk : Ek S1 R} {oo : Out S1 R} {e a b c : Expr} {es : List Expr} {d da db : D} {ss : List Stmt} {pos p1 p2 p3 : Pos} {x : Str} {κ α : Type} {kn : κ → NestedKey} {dk : κ → D} {f : α → D} {kvs : List (κ × α)} {key : κ} {n : Nat} {p : Addr}
theorem E.go (h : E G C e Γ O d) {X : Cx} (c : InC G C X) {F : Hp} {σ : L2.St} {H : Hp} (hh : Hold F Γ O σ H) {pins : List (Addr × Obj)} {s : Shared} (I : Inv X pins σ H s) :
    wpAny (model X.prog X.w) X.A (eval e X.env) (fun u s' => ∃ v F' H', Inv X pins σ H' s' ∧ RelV v u ∧ Gw F F' ∧ Hold F' Γ O σ H' ∧ d.ok F' v) X.xe s :=
  thn (h.run X c F σ H hh (fun v H' => ∃ F', Gw F F' ∧ Hold F' Γ O σ H' ∧ d.ok F' v) (fun F' H' v e1 h1 d1 => ⟨F', e1, h1, d1⟩) pins s I) fun u s' ⟨v, H', I', r, F', e1, h1, d1⟩ => ⟨v, F', H', I', r, e1, h1, d1⟩
variable [DecidableEq κ]
end
end Kn
namespace Kn
open PySem PySem.Spec PyProof.Rows L2
section
variable {X : Cx} {pins : List (Addr × Obj)} {σ : L2.St} {H : Hp} {s : Shared} {d : Addr} {o : Obj} {us : List NE}
end
section
variable {P : Program} {w : World} {K : PySem.W.Frag} {tg : Expr} {d : Addr} {o : Obj} {us : List NE} {ea : Array DictEntry} {ep : Nat}
end
section
variable {G : Cfg} {C : Sc} {Γ : Fr} {O : Own} {S S1 R B : Type} {kk : Ek S1 R} {oo : Out S1 R} {e a b c it tg : Expr} {es : List Expr} {d da db : D} {ss : List Stmt} {st : Stmt} {pos p1 p2 p3 : Pos} {x : Str} {κ α : Type} {kn : κ → NestedKey} {dk : κ → D} {f : α → D} {kvs : List (κ × α)} {key : κ} {n : Nat} {p : Addr} {P P0 : Own → Prop}
end
end Kn
namespace Kn
open PySem PySem.Spec PySem.W PyProof.Rows L2
section
variable {G : Cfg} {C : Sc} {Γ : Fr} {O : Own} {S S1 R B : Type} {kk : Ek S1 R} {oo : Out S1 R} {e a b c it tg : Expr} {es : List Expr} {d da db : D} {ss : List Stmt} {st : Stmt} {pos p1 p2 p3 : Pos} {x : Str} {κ α : Type} {kn : κ → NestedKey} {dk : κ → D} {f : α → D} {kvs : List (κ × α)} {key : κ} {n : Nat} {p : Addr}
end
end Kn
namespace Kn
open PySem PySem.Spec PyProof.Rows L2
section
variable {P : Program} {w : World} {A : Around} {E : Value → Shared → Prop} {s : Shared}
end
section
variable {G : Cfg} {C : Sc} {Γ : Fr} {O : Own} {a b c e : Expr} {p1 p2 p3 pos : Pos} {S1 R B : Type} {kk : Ek S1 R} {oo : Out S1 R} {ss : List Stmt} {κ α : Type} {kn : κ → NestedKey} {dk : κ → D} {f : α → D} {kvs : List (κ × α)} {key : κ} {n : Nat} {p : Addr}
end
end Kn
namespace Kn
open PySem PySem.Spec PySem.W L2
section
variable {G : Cfg} {x m q : Str} {st : Stmt} {N ps : List Str} {k : Nat} {S : SpecD}
end
abbrev TelV := Int × Str × Str
inductive Lw where
  | saw (i : Int)
  | heard (t : TelV) (s : Str × Int)
deriving Inhabited
def Lw.kd : Lw → Str
  | .saw _ => "saw"
  | .heard _ _ => "heard"
def Lw.no : Lw → Int
  | .saw i => i
  | .heard _ _ => 0
def Lw.ds (K : PySem.W.Frag) : Lw → List D
  | .saw i => [dS "saw", dI i]
  | .heard t s => [dS "heard", dT3 K dI dS dS t, dT2 K dS dI s]
section
variable {G : Cfg} {C : Sc} {Γ : Fr} {O : Own} {a : Expr} {pos p1 : Pos} {n : Nat} {w : Lw}
end
section
variable {G : Cfg} {C : Sc} {O : Own} {α : Type} [DecidableEq α] {f : α → D} {p : α → PyData} {n : Nat} {a b : α}
end
section
variable {G : Cfg} {C : Sc} {Γ : Fr} {O : Own} {S1 R B : Type} {kk : Ek S1 R} {oo : Out S1 R} {e a b c : Expr} {d : D} {ss ta tb : List Stmt} {pos p1 : Pos} {i n : Nat} {p : Addr} {od : OD} {ks : List Str} {key : Str}
end
theorem putIf_len {κ α : Type} [DecidableEq κ] {c : Prop} [Decidable c] {kvs : List (κ × α)} {k : κ} {v : α} : (if c then dPut kvs k v else kvs).length ≤ kvs.length + 1 := by
  split
  · exact dPut_len
  · exact Nat.le_succ _
end Kn
namespace Kn
open PySem PySem.Spec L2
section
variable {G : Cfg} {C : Sc} {Γ : Fr} {O : Own} {x : Va} {xs : List Str}
end
end Kn
namespace Kn
open PySem PySem.Spec PySem.Calls PySem.W PyProof.Rows L2
section
variable {G : Cfg} {C : Sc} {Γ : Fr} {O : Own} {S1 S2 R B : Type} {kk : Ek S1 R} {c : Expr} {ss body : List Stmt} {pos : Pos}
end
section
variable {G : Cfg} {C : Sc} {Γ : Fr} {O : Own} {S1 R B : Type} {kk : Ek S1 R} {e : Expr} {ss : List Stmt} {pos p1 : Pos} {x : Str} {α : Type} {i : Nat}
end
section
variable {G : Cfg} {C : Sc} {Γ : Fr} {O : Own} {a : Expr} {p1 p2 p3 pos : Pos}
end
section
variable {G : Cfg} {C : Sc} {O : Own}
end
end Kn
namespace Kn
open PySem PySem.Spec L2
section
variable {G : Cfg} {C : Sc} {Γ : Fr} {O : Own} {e a b : Expr} {es : List Expr} {ks : List Str} {p : Addr} {p1 p2 pos : Pos} {x : Str} {k : Nat}
end
section
variable {G : Cfg} {C : Sc} {O : Own}
end
end Kn
namespace Kn
open PySem PySem.Spec L2
instance : DecidableEq (List (Str × Int × List Str) × List (Int × Str × Str × Str) × List Sy) := @instDecidableEqProd _ _ inferInstance (@instDecidableEqProd _ _ inferInstance inferInstance)
instance : Inhabited BookV := ⟨⟨[], [], [], []⟩⟩
section
variable {G : Cfg} {C : Sc} {Γ : Fr} {O : Own} {S1 S2 R B : Type} {kk : Ek S1 R} {c : Expr} {ss body : List Stmt} {pos : Pos}
end
section
variable {G : Cfg} {C : Sc} {Γ : Fr} {O O1 : Own} {S1 R B : Type} {kk : Ek S1 R} {e a c o : Expr} {es : List Expr} {ss ta : List Stmt} {pos p1 p2 : Pos} {k : Bool} {α : Type} [Inhabited α] {f : α → D} {n j : Nat} {p : Addr} {x m : Str} {ns : List Str} {fs ds : List D} {S : SpecD} {xd : Xd}
theorem AN.bt {T : (Own → List D → Prop) → Prop} (h : AN G C es Γ O T) (pos : Pos) (env : Env) : (backTo pos (starEach es env)).any (·.1) = false := by
  unfold backTo
  rw [List.any_map]
  exact h.st env
end
end Kn
namespace Kn
open PySem PySem.Spec L2
section
variable {G : Cfg} {C : Sc} {Γ : Fr} {O O2 : Own} {S1 R B : Type} {kk : Ek S1 R} {oo : Out S1 R} {e a b : Expr} {ss : List Stmt} {pos p1 p2 : Pos} {k : Bool} {op : CmpOp} {n : Nat} {p : Addr} {ds : List D} {d : D}
end
instance : DecidableEq ((List (Str × Option Int) × Stl) × Option (Option Int × List Str)) := @instDecidableEqProd _ _ inferInstance inferInstance
abbrev Tl := (List (Str × Option Int) × Stl) × Option (Option Int × List Str)
def Tl.ds (K : PySem.W.Frag) (t : Tl) : List D := [dLo K (dT2 K dS (dO dI)) t.1.1, dStl K t.1.2] ++ (match t.2 with
  | none => []
  | some x => [dLst K [dO dI x.1, dLo K dS x.2]])
end Kn
namespace Kn
open PySem PySem.Spec L2 PyProof.Rows
section
variable {X : Cx} {e : Expr} {es : List Expr} {ta : TA} {y : Str} {p1 p2 pos : Pos} {Cy : Addr} {mc : Value} {pl : Sem Bool}
theorem pe_clsinit (hg : Gl X y) (hm : X.mg y = some (.ref Cy)) (hd : (y == ("__debug__" : Str)) = false) (ga : PySem.W.specialIn X.K (.ref Cy) "__getattribute__" = some (some (.builtin "type.__getattribute__"))) (rd : PySem.W.readsIn X.K Cy mc = true)
    (fc : PySem.W.findCls X.K (.ref Cy) mc "__init__" = some (.val (.builtin "ValueError.__init__"))) (ha : PA X (e :: es) ta)
    (hc : eval (.Call (.Attribute (.Name y p1) "__init__" p2) (e :: es) [] pos) X.env = (do
      let ov ← eval (.Name y p1) X.env; standAt p2.atName
      let (f, first) ← holding [ov] (getMethod ov "__init__" pl); callWith pos f first (backTo pos (starEach (e :: es) X.env)) (backToKw pos (keywordEach [] X.env))))
    (he : starEach (e :: es) X.env = (false, eval e X.env) :: starEach es X.env) (hpl : (backTo pos (starEach es X.env)).any (·.1) = false) :
    PE X (.Call (.Attribute (.Name y p1) "__init__" p2) (e :: es) [] pos) (tVeI X.K ta) := .mk fun pins s σ H Q I h => by
  refine PySem.W.methodCall_KW (ld_glob I hg hm ?_ hd) hc
  refine PySem.W.method_cls I.kIn ga (PySem.W.cls_value I.kIn rd fc (by decide) ?_)
  show wpAny _ _ (callWith pos (Value.builtin "ValueError.__init__") [] (backTo pos (starEach (e :: es) X.env)) ([] : List (Option Str × Sem Value))) _ _ _
  refine PyProof.Rows.callWith_method1 (thn (ha.run pos pins _ σ H _ (I.tok _) h) ?_) he hpl
  rintro us s1 ⟨vs, H1, I1, r1, a, C, ws, rfl, hl, T, ea, q⟩
  cases r1 with
  | @cons _ u0 _ ur ra rw' =>
    cases ra
    exact oinit_ok T I1 ea (by rw [← Paired.length rw', sizeLine_eq]; omega) fun s' J => ⟨.non, H1, J, rfl, q⟩
end
def spX (C : Addr) (f : Str) : Sp := fun vs H Q _ => ∃ (a : Addr) (y : V), vs = [.ref a, y] ∧ H a = some (exo a C none) ∧ ∀ dx, H dx = none → dx ≠ a → Q .non (upd (upd H dx (exd dx [(f, y)])) a (exo a C (some dx)))
structure InitX (st : Stmt) (k : Nat) (y f a : Str) : Prop where
  sc : FnScope ["self", a] ["self", a] (defScope st)
  v0 : Var ⟨k, ["self", a], defScope st, true, true⟩ 0 "self"
  v1 : Var ⟨k, ["self", a], defScope st, true, true⟩ 1 a
  gy : Glo ⟨k, ["self", a], defScope st, true, true⟩ y
  body : ∃ (m : Str) (j : Nat) (p1 p2 p3 p4 p5 p6 p7 p8 p9 p10 : Pos), defBody st = [.Expr (.Call (.Attribute (.Name y p1) "__init__" p2) [.Name "self" p3, .Constant (.str m) j p4] [] p5) p6, .Assign [.Attribute (.Name "self" p7) f p8] (.Name a p9) p10] ∧
    MethTree (.Name y p1) "__init__" p2 p5 [.Name "self" p3, .Constant (.str m) j p4] ∧ (∀ env, starEach [.Name "self" p3, .Constant (.str m) j p4] env = (false, eval (.Name "self" p3) env) :: starEach [.Constant (.str m) j p4] env) ∧ (∀ env, starEach [.Constant (.str m) j p4] env = (false, eval (.Constant (.str m) j p4) env) :: starEach [] env) ∧
    (∀ env, swapsWith (.Call (.Attribute (.Name y p1) "__init__" p2) [.Name "self" p3, .Constant (.str m) j p4] [] p5) none p6.line env = pure false) ∧ (∀ env, swapsWith (.Name a p9) (some (.Attribute (.Name "self" p7) f p8)) p10.line env = pure false)
structure DefX (G : Cfg) (x q y f : Str) (st : Stmt) : Prop where
  ex : ∃ (C fI Cy : Addr) (fd : FuncData), G.mg x = some (.ref C) ∧ OexC G.K C ∧ PySem.W.findIn G.K (.ref C) "__init__" = some (some (.ref fI)) ∧ PySem.W.typeIn G.K (.ref fI) = some (.type "function") ∧ PySem.W.findIn G.K (.ref C) f = some none ∧ FunD G.K "__init__" q (defArgs st) (defBody st) (defScope st) [] [] fI fd ∧
    G.mg y = some (.ref Cy) ∧ PySem.W.specialIn G.K (.ref Cy) "__getattribute__" = some (some (.builtin "type.__getattribute__")) ∧ PySem.W.readsIn G.K Cy (.type "type") = true ∧ PySem.W.findCls G.K (.ref Cy) (.type "type") "__init__" = some (.val (.builtin "ValueError.__init__"))
theorem initX_fn {G : Cfg} {q y f a : Str} {st : Stmt} {k : Nat} {C fI Cy : Addr} {fd : FuncData} (F : FunD G.K "__init__" q (defArgs st) (defBody st) (defScope st) [] [] fI fd) (ix : InitX st k y f a) (ox : OexC G.K C) (nf : PySem.W.findIn G.K (.ref C) f = some none)
    (my : G.mg y = some (.ref Cy)) (ga : PySem.W.specialIn G.K (.ref Cy) "__getattribute__" = some (some (.builtin "type.__getattribute__"))) (rd : PySem.W.readsIn G.K Cy (.type "type") = true) (fc : PySem.W.findCls G.K (.ref Cy) (.type "type") "__init__" = some (.val (.builtin "ValueError.__init__"))) :
    FnOk G.P G.w G.K G.mg G.base (CX G.P G.w) (k + 1) fI fd ["self", a] (spX C f) := by
  obtain ⟨P, w, K, mg, base⟩ := G
  refine F.ok ix.sc (fun vs H Q E ⟨a, y, e, _⟩ => by rw [e]; rfl) (fun cdv A outer s H vs Q E hr h => ?_)
  obtain ⟨b, z, rfl, hb, hq⟩ := h
  obtain ⟨m, j, p1, p2, p3, p4, p5, p6, p7, p8, p9, p10, hbo, mt, s1, s2, w1, w2⟩ := ix.body
  have c := inC_of (outer := outer) (CX := CX P w) (P := P) (w := w) (K := K) (mg := mg) (base := base) (N := ["self", a]) (E := E) (H := H) hr
  generalize hX : cxOf (CX P w) P w K mg base ["self", a] q (defScope st) fI cdv A outer s H E = X at c ⊢
  obtain ⟨pl, ht⟩ := mt X.env
  have fr : FrOk H (frame0 ["self", a] [dV (.ref b), dV z]) (L2.start ["self", a] [.ref b, z]) := frame_start (show AllD H [dV (.ref b), dV z] [.ref b, z] from ⟨rfl, rfl, trivial⟩)
  obtain ⟨u0, k0, e0⟩ := fr.2 0 _ rfl
  obtain ⟨u1, k1, e1⟩ := fr.2 1 _ rfl
  have e0' : u0 = .ref b := e0
  have e1' : u1 = z := e1
  subst e0' e1'
  have n0 : ∀ {p : Pos} {H' : Hp} {Q : VK}, Q (.ref b) H' → WE X (.Name "self" p) (L2.start ["self", a] [.ref b, u1]) H' Q := fun q => we_of (pe_var (by rw [c.n]; exact ix.v0.n) (by rw [c.sc]; exact ix.v0.v) ix.v0.d ix.v0.c) ⟨_, k0, q⟩
  have n1 : ∀ {p : Pos} {H' : Hp} {Q : VK}, Q u1 H' → WE X (.Name a p) (L2.start ["self", a] [.ref b, u1]) H' Q := fun q => we_of (pe_var (by rw [c.n]; exact ix.v1.n) (by rw [c.sc]; exact ix.v1.v) ix.v1.d ix.v1.c) ⟨_, k1, q⟩
  rw [hbo]
  refine ⟨_, pss_cons (ps_expr (pe_clsinit (c.gl ix.gy) (by rw [c.mg]; exact my) ix.gy.2.1 (by rw [c.K]; exact ga) (by rw [c.K]; exact rd) (by rw [c.K]; exact fc) (pa_cons pe_can (pa_cons pe_str pa_nil (s2 X.env)) (s1 X.env)) ht (s1 X.env) (by rw [s2]; rfl)) (w1 X.env)) (pss_one (ps_ost pe_can pe_can (w2 X.env))), ?_⟩
  refine n0 ⟨b, C, _, rfl, (show 1 ≤ 1000 by decide), by rw [c.K]; exact ox, hb, ?_⟩
  refine n1 (n0 ⟨b, C, rfl, by rw [c.K]; exact ox, by rw [c.K]; exact nf, .inl ⟨hb, fun dx n ne => hq dx n ne⟩⟩)
section
variable {G : Cfg} {C : Sc} {Γ : Fr} {O : Own} {S1 R : Type} {kk : Ek S1 R} {e : Expr} {d : D} {ss : List Stmt} {pos p1 p3 : Pos} {x q y f a : Str} {st : Stmt} {k : Nat}
theorem ss_raiseO [Calm C] {o : Out S1 R} (dx : DefX G x q y f st) (ix : InitX st k y f a) (hbind : ∀ (kV doc pm : Value) (an : Option Addr) (cdv ct : Value) (us : List Value), us.length = 2 → bindArgs (PySem.W.fnOf "__init__" q (defArgs st) (defBody st) (defScope st) .none kV doc pm an cdv ct) ⟨us, []⟩ = pure (([("self" : Str), a] : List Str).zip us))
    (hk : k + 2 ≤ C.k) (g : Glo C x) (he : E G C e Γ O d) (hs : ∀ env, starEach [e] env = (false, eval e env) :: starEach [] env) (hm : ∀ F D W, meet kk F D W o → ∀ F' c d' σ H, Gw F F' → Hold F' Γ O σ H → xok G ⟨x, [f], [d]⟩ F' c d' → W c d' σ H) : SS G C (.Raise (some (.Call (.Name x p1) [e] [] p3)) none pos :: ss) Γ O kk o := .mk fun X c W tk F σ H hh D mm => by
  obtain ⟨Ca, fI, Cy, fd, h1, h2, h3, h4, h5, h6, h7, h8, h9, h10⟩ := dx.ex
  have Fn := initX_fn h6 ix h2 h5 h7 h8 h9 h10
  have Fn' : FnOk X.prog X.w X.K X.mg X.base (CX X.prog X.w) (k + 1) fI fd ["self", a] (spX Ca f) := by rw [c.p, c.w, c.K, c.mg, c.base]; exact Fn
  refine wss_of (pss_cons (ps_raise c.cm tk (pmk_oex (dvs := []) (by rw [c.K]; exact h2) (by rw [c.K]; exact h3) (by rw [c.K]; exact h4) Fn' (c.room.mono hk) (by rw [c.K]; exact h6.bindsN hbind) .nil passL (c.gl g) (by rw [c.mg]; exact h1) (pa_cons pe_can pa_nil (hs X.env)) g.2.1 (hs X.env) rfl)) pss_can) ?_
  refine he.run X c F σ H hh _ fun F1 H1 v e1 hh1 d1 => ⟨(show 1 ≤ 1000 by decide), fun b hb => ⟨b, v, rfl, upd_same, fun dd hdd hne => ⟨rfl, dd, [(f, v)], upd_same, ?_, ?_, ?_⟩⟩⟩
  · rw [upd_ne hne, upd_same]
  · rw [upd_ne hne] at hdd; exact hdd
  · have hd1 : H1 dd = none := by rw [upd_ne hne] at hdd; exact hdd
    have eH : upd (del (upd (upd (upd H1 b (exo b Ca none)) dd (exd dd [(f, v)])) b (exo b Ca (some dd))) b) dd (.xd [(f, v)]) = upd H1 dd (.xd [(f, v)]) := by
      funext z
      by_cases hz : z = dd
      · rw [hz, upd_same, upd_same]
      · rw [upd_ne hz, upd_ne hz]
        by_cases hzb : z = b
        · rw [hzb, del_same, hb]
        · rw [del_ne hzb, upd_ne hzb, upd_ne hz, upd_ne hzb]
    rw [eH]
    obtain ⟨h11, e2⟩ := hh1.ho.laid (o := .xd [(f, v)]) hd1
    exact hm F D W mm _ _ _ σ _ (e1.trans e2) (hh1.mono e2 h11) ⟨Ca, h1, rfl, dd, [v], rfl, upd_same, rfl, d.mono e2 d1, trivial⟩
end
end Kn
namespace Kn
open PySem PySem.Spec L2 PyProof.Rows
section
variable {X : Cx} {CX : CXT} {k : Nat} {f C : Addr} {fd : FuncData} {ps : List Str} {sp : Sp} {E : L2.St → XK} {x m : Str} {p pos apos : Pos} {e o : Expr} {es : List Expr} {ta : TE} {t : TA}
theorem pe_xfO {n : Str} (T : XfC X.K C) (hno : PySem.W.findIn X.K (.ref C) n = some none) (he : PE X e ta) (hb : attributeBase e n X.env (eval e X.env) = eval e X.env) :
    PE X (.Attribute e n pos) (fun σ H Q => ta σ H fun x H1 => ∃ (a dd : Addr) (fs : List (Str × V)) (v : V), x = .ref a ∧ H1 a = some (ExcO (.ref C) (some dd) a) ∧ H1 dd = some (.xd fs) ∧ fs.lookup n = some v ∧ Q v H1) := .mk fun pins s σ H Q I h => by
  refine attr_of hb (thn (he.run pins s σ H _ I h) ?_)
  rintro u s1 ⟨x, H1, I1, rx, a, dd, fs, v, rfl, eo, ea, l, q⟩
  cases rx
  obtain ⟨⟨oe, vs, hget, hz, hdt⟩, _, _⟩ := (show ObjOk X.prog X.w H1 s1.heap a (ExcO (.ref C) (some dd) a) from I1.hok a _ eo)
  obtain ⟨mA, hns, hr⟩ := (show ObjOk X.prog X.w H1 s1.heap dd (.xd fs) from I1.hok dd _ ea)
  obtain ⟨od, ho, hl⟩ := lookIn_ns hns
  obtain ⟨u, hu, ru⟩ := RelO.some_of (v := v) (o := mA n) (by rw [← l]; exact hr n)
  have J : PySem.W.InstAt s1.heap a oe C (some od) := ⟨hget, hz.1, by unfold PySem.W.notCls; rw [hdt] <;> rfl, by rw [hz.2]; exact ho⟩
  exact HandSPX.exc_get I1.kIn J T.ga T.gg T.exC (PySem.W.findObj_own T.hdC hno rfl (by rw [hl, hu])) (handed_of ru) ⟨v, H1, I1.tok _, ru, q⟩
end
def XfA (G : Cfg) (x n : Str) : Prop := ∃ C, G.mg x = some (.ref C) ∧ XfC G.K C ∧ PySem.W.findIn G.K (.ref C) n = some none
section
variable {G : Cfg} {C : Sc} {Γ : Fr} {O : Own} {S1 R : Type} {kk : Ek S1 R} {e o : Expr} {es : List Expr} {d : D} {ds fs : List D} {ss : List Stmt} {pos p1 p2 : Pos} {x m : Str} {k n : Nat} {p : Addr} {ns : List Str} {xd : Xd} {S : SpecD} {b : Bool}
theorem e_xf {i : Nat} {f : Str} {fl : List Str} (xf : XfA G xd.n m) (ha : E G C e Γ O (dX G xd)) (hfs : xd.fs = f :: fl) (nd : (f :: fl).Nodup) (hf : (f :: fl)[i]? = some m) (hd : xd.ds[i]? = some d) (hb : ∀ env, attributeBase e m env (eval e env) = eval e env) : E G C (.Attribute e m pos) Γ O d := .mk fun X c F σ H hh Q q => by
  obtain ⟨Cx, h1, h2, h3⟩ := xf
  refine we_of (pe_xfO (C := Cx) (by rw [c.K]; exact h2) (by rw [c.K]; exact h3) pe_can (hb X.env)) (ha.run X c F σ H hh _ fun F1 H1 v e1 hh1 d1 => ?_)
  obtain ⟨a, cl, dd, rfl, k2, Cz, k3, rfl, k4⟩ := d1
  have ec := mgs h1 k3
  subst ec
  rw [hfs] at k4
  obtain ⟨dx, vs, rfl, k5, k6, k7⟩ := k4
  obtain ⟨u, hu, du⟩ := AllD.get k7 hd
  exact ⟨a, dx, _, u, rfl, hh1.ho.ex a _ k2, hh1.ho.ex dx _ k5, zip_lookup nd hf hu, q F1 H1 u e1 hh1 du⟩
end
def oexB (K : PySem.W.Frag) (C : Addr) : Bool := match K.lookup C with
  | some ⟨.type "type", _, .cls cd, sl⟩ => (match cd.mro, sl.toList with
    | .ref C' :: bm, [_, _, _, _, some (.builtin n), _] => C' == C && n == "ValueError.__new__" && !cd.hasDel && cd.hasDict && PySem.HandSPX.refsVE bm
    | _, _ => false)
  | _ => false
def defxB (K : PySem.W.Frag) (x y f : Str) : Bool := (oexB K (He.ga K x) && He.eqO (PySem.W.findIn K (.ref (He.ga K x)) "__setattr__") (some (some (.builtin "object.__setattr__"))) && decide (PySem.W.subIn K (.ref (He.ga K x)) (.type "BaseException") = some true) && decide (PySem.W.typeIn K (.ref (He.ga K x)) = some (.type "type")) && PySem.W.keepIn K (.ref (He.ga K x))) &&
  (He.eqO (PySem.W.findIn K (.ref (He.ga K x)) "__init__") (some (some (.ref (He.fAd K (x, some "__init__"))))) && decide (PySem.W.typeIn K (.ref (He.fAd K (x, some "__init__"))) = some (.type "function")) && He.eqO (PySem.W.findIn K (.ref (He.ga K x)) f) (some none)) &&
  (He.eqO (PySem.W.specialIn K (.ref (He.ga K y)) "__getattribute__") (some (some (.builtin "type.__getattribute__"))) && PySem.W.readsIn K (He.ga K y) (.type "type") && (match PySem.W.findCls K (.ref (He.ga K y)) (.type "type") "__init__" with
    | some (.val v) => decide (v = .builtin "ValueError.__init__")
    | _ => false))
def xfaB (K : PySem.W.Frag) (x n : Str) : Bool := xfB K (He.ga K x) && He.eqO (PySem.W.findIn K (.ref (He.ga K x)) n) (some none)
theorem oexB_ok {K : PySem.W.Frag} {C : Addr} (q : oexB K C = true) : ∃ nm qn N bs bm sn sub ab col dd k0 k1 k2 k3 k5, K.lookup C = some (excClassObj nm qn C N bs bm true sn sub ab col dd k0 k1 k2 k3 k5 "ValueError.__new__") ∧ PySem.HandSPX.refsVE bm = true := by
  unfold oexB at q
  split at q
  · rename_i dd cd sl ho
    split at q
    · rename_i C' bm k0 k1 k2 k3 n k5 hm hs
      simp only [Bool.and_eq_true, beq_iff_eq, Bool.not_eq_true'] at q
      obtain ⟨⟨⟨⟨rfl, rfl⟩, hdel⟩, hdi⟩, ht⟩ := q
      obtain ⟨nm, bs, mro, ns, qn, hd, sn, sub, ab, col, del⟩ := cd
      dsimp only at hm hdel hdi
      subst hm hdel hdi
      obtain ⟨l⟩ := sl
      simp only at hs
      subst hs
      exact ⟨nm, qn, ns, bs, bm, sn, sub, ab, col, dd, k0, k1, k2, k3, k5, ho, ht⟩
    · cases q
  · cases q
section
variable {K : PySem.W.Frag} {P : Program} {w : World} {mg : Str → Option Value} {base h : Heap} {x y f q : Str} {st : Stmt} {fa : List He.Fa} {fn : List He.DefD} {i : Nat}
theorem defX_of (c : He.SaysD fa fn K) (hd : fn[i]? = some ⟨(x, some "__init__"), "__init__", q, defArgs st, defBody st, defScope st, [], []⟩) (g : mg x = some (.ref (He.ga K x))) (g2 : mg y = some (.ref (He.ga K y))) (b : defxB K x y f = true) : DefX ⟨P, w, K, mg, base⟩ x q y f st := by
  obtain ⟨fd, F⟩ := c.def_ i hd
  unfold defxB at b
  simp only [Bool.and_eq_true, decide_eq_true_eq] at b
  obtain ⟨⟨⟨⟨⟨⟨b1, b2⟩, b3⟩, b4⟩, b5⟩, ⟨b6, b7⟩, b8⟩, ⟨b9, b10⟩, b11⟩ := b
  refine ⟨_, _, _, fd, g, ⟨oexB_ok b1, He.eqO_ok b2, b3, b4, b5⟩, He.eqO_ok b6, b7, He.eqO_ok b8, F, g2, He.eqO_ok b9, b10, ?_⟩
  split at b11
  · rename_i v hv
    rw [hv, of_decide_eq_true b11]
  · cases b11
theorem xfA_of (g : mg x = some (.ref (He.ga K x))) (b : xfaB K x f = true) : XfA ⟨P, w, K, mg, base⟩ x f := by
  unfold xfaB at b
  rw [Bool.and_eq_true] at b
  exact ⟨_, g, xfB_ok b.1, He.eqO_ok b.2⟩
end
end Kn
namespace Kn
open PySem PySem.Spec L2 PyProof.Rows
section
variable {G : Cfg} {C : Sc} {Γ : Fr} {O : Own} {a b : Expr} {pos : Pos} {xs : List Va} {m : Int} {x q : Str} {st : Stmt} {N ps : List Str} {k : Nat} {S : SpecD}
end
end Kn
namespace Kn
open PySem PySem.Spec L2
section
variable {G : Cfg} {C : Sc} {Γ : Fr} {O O1 : Own} {S1 R B : Type} {kk : Ek S1 R} {e a b : Expr} {es : List Expr} {d db : D} {ss : List Stmt} {pos : Pos} {k k' : Bool} {op : CmpOp} {f1 : Addr → Own}
theorem e_xf1 {x f : Str} (xf : XfA G x f) (ha : E G C a Γ O (dX G ⟨x, [f], [d]⟩)) (hb : ∀ env, attributeBase a f env (eval a env) = eval a env) : E G C (.Attribute a f pos) Γ O d :=
  e_xf (xd := ⟨x, [f], [d]⟩) (f := f) (fl := []) (i := 0) xf ha rfl (by simp) rfl rfl hb
end
end Kn
namespace Kn
open PySem PySem.Spec L2
instance : DecidableEq ((List Str) × (List (Str × Int × (List Str))) × (List (Int × Str × Str × Str)) × (List Sy) × (List (Int × Str × Str))) := fun a b =>
  haveI : DecidableEq (List Str) := inferInstance
  haveI : DecidableEq (List (Str × Int × (List Str))) := inferInstance
  haveI : DecidableEq (List (Int × Str × Str × Str)) := inferInstance
  haveI : DecidableEq (List Sy) := inferInstance
  haveI : DecidableEq (List (Int × Str × Str)) := inferInstance
  haveI : DecidableEq ((List Sy) × (List (Int × Str × Str))) := instDecidableEqProd
  haveI : DecidableEq ((List (Int × Str × Str × Str)) × (List Sy) × (List (Int × Str × Str))) := instDecidableEqProd
  haveI : DecidableEq ((List (Str × Int × (List Str))) × (List (Int × Str × Str × Str)) × (List Sy) × (List (Int × Str × Str))) := instDecidableEqProd
  (instDecidableEqProd : DecidableEq ((List Str) × (List (Str × Int × (List Str))) × (List (Int × Str × Str × Str)) × (List Sy) × (List (Int × Str × Str)))) a b
theorem spl_parts {S : List Nat} : ∀ {l : List Nat} {k : Nat} {acc p : List Nat}, p ∈ TL.spl S k acc l → (∀ c ∈ p, c ∈ acc ∨ c ∈ l) ∧ p.length ≤ acc.length + l.length
  | [], k, acc, p, h => by
    rw [TL.spl_nil, List.mem_singleton] at h
    subst h
    exact ⟨fun c hc => .inl hc, Nat.le_refl _⟩
  | c :: r, 0, acc, p, h => by
    by_cases hp : TL.pre S (c :: r) = true
    · rw [TL.spl_hit hp] at h
      rcases List.mem_cons.mp h with h | h
      · subst h
        exact ⟨fun c hc => .inl hc, by omega⟩
      · obtain ⟨h1, h2⟩ := spl_parts h
        refine ⟨fun c hc => (h1 c hc).elim (fun z => nomatch z) fun z => .inr (List.mem_cons_of_mem _ z), ?_⟩
        simp only [List.length_nil, List.length_cons] at h2 ⊢
        omega
    · rw [TL.spl_miss (Bool.not_eq_true _ ▸ hp)] at h
      obtain ⟨h1, h2⟩ := spl_parts h
      refine ⟨fun d hd => ?_, ?_⟩
      · rcases h1 d hd with z | z
        · rcases List.mem_append.mp z with z | z
          · exact .inl z
          · rw [List.mem_singleton.mp z]; exact .inr List.mem_cons_self
        · exact .inr (List.mem_cons_of_mem _ z)
      · simp only [List.length_append, List.length_cons, List.length_nil] at h2 ⊢
        omega
  | c :: r, k + 1, acc, p, h => by
    obtain ⟨h1, h2⟩ := spl_parts (show p ∈ TL.spl S k acc r from h)
    refine ⟨fun d hd => (h1 d hd).imp id (List.mem_cons_of_mem _), ?_⟩
    simp only [List.length_cons]
    omega
theorem split_parts {x y : Str} (hy : TL.tl y ≠ []) (hk : y.cps.all (· < 256) = true) {p : Str} (h : p ∈ Txt.split x y) : (∀ c ∈ p.cps.toList, c ∈ x.cps.toList) ∧ p.length ≤ x.length := by
  have e := TL.split_spl x y hy (TL.kind_ok hk)
  have h2 : TL.tl p ∈ TL.spl (TL.tl y) 0 [] (TL.tl x) := by rw [← e]; exact List.mem_map_of_mem h
  obtain ⟨h3, h4⟩ := spl_parts h2
  refine ⟨fun c hc => (h3 c hc).elim (fun z => nomatch z) id, ?_⟩
  rw [TL.len_tl, TL.len_tl]
  simpa using h4
theorem split_okS {x y : Str} (hx : okS x) (hy : TL.tl y ≠ []) (hk : y.cps.all (· < 256) = true) : ∀ p ∈ Txt.split x y, okS p := fun p h => by
  obtain ⟨h1, h2⟩ := split_parts hy hk h
  exact ⟨strOk_iff.mpr fun c hc => strOk_iff.mp hx.1 c (h1 c hc), Nat.le_trans h2 hx.2⟩
def digV (x : Str) : Int := (PySem.intText? x).getD 0
def idxS (xs : List Str) (x : Str) : Int := ((xs.idxOf x : Nat) : Int)
theorem tab_int {K : PySem.W.Frag} {x : Str} {l : List Int} (h : He.tupB K x (l.map He.Dv.int) = true) (H : Hp) : SqT K H (He.ga K x) (l.map V.int) := by
  have a := He.tupB_ok h H
  rw [List.map_map] at a
  exact a
def tupIB (K : PySem.W.Frag) (x : Str) : Bool := match K.lookup (He.ga K x) with
  | some ⟨.type c, none, _, _⟩ => decide (c = "tuple")
  | _ => false
theorem idx_le {z : Str} : ∀ {l : List Str} {m : Nat}, l[m]? = some z → l.idxOf z ≤ m
  | [], _, h => nomatch h
  | y :: l, 0, h => by
    have e : y = z := Option.some.inj h
    rw [List.idxOf_cons, e, beq_self_eq_true]
    exact Nat.le_refl _
  | y :: l, m + 1, h => by
    rw [List.idxOf_cons]
    have := idx_le (l := l) (show l[m]? = some z from h)
    cases y == z
    · show l.idxOf z + 1 ≤ m + 1; omega
    · exact Nat.zero_le _
section
variable {G : Cfg} {C : Sc} {Γ Γ' : Fr} {O : Own} {S1 R B : Type} {kk : Ek S1 R} {oo : Out S1 R} {e a b c : Expr} {es : List Expr} {d d' : D} {ds ds' : List D} {ss body : List Stmt} {pos p1 p2 p3 : Pos} {x : Str} {α : Type} {f : α → D} {n m i k : Nat} {p q : Addr} {od : OD}
theorem en_split {z y : Str} (ha : E G C a Γ O (dS z)) (hb : E G C b Γ O (dS y)) (hy : TL.tl y ≠ []) (hk : y.cps.all (· < 256) = true) (hz : z.length ≤ 1000000) (hs : ∀ env, starEach [b] env = [(false, eval b env)]) (hba : ∀ env, attributeBase a "split" env (eval a env) = eval a env) (hln : (p1.endLine == pos.line) = true) : EN G C (.Call (.Attribute a "split" p1) [b] [] pos) Γ O (oLst ((Txt.split z y).map dS)) := .mk fun X c F σ H hh Q q => by
  refine we_of (L2.pe_split pe_can pe_can (hs X.env) (hba X.env) hln) (ha.run X c F σ H hh _ fun F1 H1 v e1 h1 d1 => ⟨⟨z, d1.1⟩, ?_⟩)
  refine hb.run X c F1 σ H1 h1 _ fun F2 H2 u e2 h2 d2 => ?_
  refine ⟨z, y, d1.1, by rw [d2.1], ?_, by rw [sizeLine_eq]; omega, fun p hp => ?_⟩
  · have : y.length ≠ 0 := fun h0 => hy (List.length_eq_zero_iff.mp ((TL.len_tl y).symm.trans h0))
    exact beq_eq_false_iff_ne.mpr this
  · exact q F2 _ p (e1.trans e2) ⟨h2.fr, h2.ho.own hp ⟨_, rfl, allD_dS _ (split_okS d1.2 hy hk)⟩⟩
theorem k_intT {x : Str} (h : (PySem.intText? x).isSome = true) (hl : x.length ≤ 640) : CalR G C (.type "int") O [dS x] (dI (digV x)) := ⟨fun X c => ⟨_, L2.call_int_str, fun F H vs hh hv Q q => by
  obtain ⟨v, rfl, h1⟩ := all1 hv
  obtain ⟨n, hn⟩ := Option.isSome_iff_exists.mp h
  refine ⟨x, n, by rw [h1.1], hn, hl, q F H _ (Gw.refl F) hh ?_⟩
  show V.int n = V.int (digV x)
  unfold digV
  rw [hn]
  rfl⟩⟩
def TupI (G : Cfg) (x : Str) (l : List Str) : Prop := ∃ p, G.mg x = some (.ref p) ∧ (∀ H, SqT G.K H p (l.map V.str)) ∧ ∃ o, G.K.lookup p = some o ∧ o.cls = .type "tuple" ∧ o.dict = none
theorem tupI_of {P : Program} {w : World} {K : PySem.W.Frag} {mg : Str → Option Value} {base : Heap} {x : Str} {l : List Str} (g : mg x = some (.ref (He.ga K x))) (h : He.tupB K x (l.map He.Dv.str) = true) (h2 : tupIB K x = true) : TupI ⟨P, w, K, mg, base⟩ x l := by
  refine ⟨_, g, tab_str h, ?_⟩
  unfold tupIB at h2
  split at h2
  · rename_i c dt sl e
    rw [of_decide_eq_true h2] at e
    exact ⟨_, e, rfl, rfl⟩
  · cases h2
theorem e_tidx {l : List Str} {z : Str} (g : Glo C x) (ht : TupI G x l) (hb : E G C b Γ O (dS z)) (hm : z ∈ l) (hba : ∀ env, attributeBase (.Name x p2) "index" env (eval (.Name x p2) env) = eval (.Name x p2) env) (hl : (p1.endLine == pos.line) = true) (hs : ∀ env, starEach [b] env = (false, eval b env) :: starEach [] env) : E G C (.Call (.Attribute (.Name x p2) "index" p1) [b] [] pos) Γ O (dI (idxS l z)) := .mk fun X c F σ H hh Q q => by
  obtain ⟨p, hg, hq, o, ho, hc, hd⟩ := ht
  refine we_of (pe_bm PySem.F.plainAttrs_tuple PySem.F.slot_tuple_index PySem.F.type_tuple_index mt_tup_index (pe_glob (v := .ref p) (c.gl g) (by rw [c.mg]; exact hg) (show RelV (.ref p) (.ref p) from rfl) g.2.1) (pa_cons pe_can pa_nil (hs X.env)) (hba X.env) (by rw [hs]; rfl) hl (hs X.env) rfl) ?_
  refine ⟨.inr (.inl ⟨rfl, o, by rw [c.K]; exact ho, hc, hd⟩), hb.run X c F σ H hh _ fun F2 H2 w e2 h2 d2 => ?_⟩
  have d2' : w = .str z := d2.1
  subst d2'
  have hi := List.idxOf_lt_length_of_mem hm
  refine ⟨p, l, z, l.idxOf z, rfl, rfl, by rw [c.K]; exact hq H2, by rw [List.getElem?_eq_getElem hi, List.getElem_idxOf], fun m hm2 h2 => ?_, q F2 H2 _ e2 h2 rfl⟩
  have hml : m < l.length := Nat.lt_trans hm2 hi
  rw [List.getElem?_eq_getElem hml] at h2
  have := idx_le ((List.getElem?_eq_getElem hml).trans h2)
  omega
theorem e_globTI {l : List Int} (g : Glo C x) (hm : ∃ p, G.mg x = some (.ref p) ∧ ∀ H, SqT G.K H p (l.map V.int)) : E G C (.Name x pos) Γ O (dTup G.K (l.map dI)) := by
  obtain ⟨p, hm, hs⟩ := hm
  exact e_globT g hm fun F => ⟨p, _, rfl, hs F, by rw [map_dI]; exact allD_dV _⟩
theorem ss_frzQ {es : List D} (hi : Γ[i]? = some (some (dLst G.K es))) (he : es[k]? = some (dP p)) (hk : O[n]? = some (p, oLst ds)) (h : SS G C ss (Γ.set i (some (dLst G.K (es.set k (dLst G.K ds))))) (O.eraseIdx n) kk oo) : SS G C ss Γ O kk oo := .mk fun X c W tk F σ H hh D m => by
  obtain ⟨F', e, h2, d2⟩ := freeze_lstAt (G := G) hh.ho hk
  refine h.run X c W tk F' σ H ⟨(hh.fr.mono e).put hi fun v ⟨a, vs, h3, h4, h5⟩ => ⟨a, vs, h3, h4, AllD.put (fun u hu => (show u = .ref p from hu) ▸ d2) he h5⟩, h2⟩ D (meet.mono e m)
theorem et_lst {T : (Own → List D → Prop) → Prop} (h : AN G C es Γ O T) (hlen : ∀ R, T R → T fun O' ds => R O' ds ∧ ds.length ≤ 1000) : ET G C (.List es pos) Γ O (fun R => T fun O' ds => R O' (dLst G.K ds)) := .mk fun X c F σ H hh R t Q q => by
  refine we_of (pe_lst pa_can) (h.run X c F σ H hh _ (hlen _ t) _ fun F1 H1 vs O' ds r e1 h1 d1 => ⟨?_, fun p hp => ?_⟩)
  · rw [AllD.length d1]; exact Nat.le_trans r.2 (by decide)
  · obtain ⟨F2, e2, h2, d2⟩ := freeze_lst (G := G) (h1.ho.own hp ⟨vs, rfl, d1⟩)
    exact q F2 _ _ O' _ r.1 (e1.trans e2) ⟨h1.fr.mono e2, h2⟩ d2
def Tupy (d : D) : Prop := ∀ (F F' : Hp) (v : V), (∀ a vs, Rd F a (.tup vs) → Rd F' a (.tup vs)) → d.ok F v → d.ok F' v
def NoTups (O : Own) : Prop := ∀ q ∈ O, ∀ F vs, ¬ q.2.ok F (.tup vs) ∧ ∀ o, ¬ q.2.ok F (.frz o (.tup vs))
theorem nt_nil : NoTups [] := fun _ h => nomatch h
theorem nt_lst (h : NoTups O) : NoTups ((p, oLst ds) :: O) := fun q hq => by
  rcases List.mem_cons.mp hq with rfl | hq
  · refine fun F vs => ⟨fun h => ?_, fun o h => ?_⟩
    · obtain ⟨_, z, _⟩ := h
      cases z
    · obtain ⟨_, z, _⟩ := h
      cases z
  · exact h q hq
theorem ty_V {v : V} : Tupy (dV v) := fun _ _ _ _ h => h
theorem ty_S {s : Str} : Tupy (dS s) := fun _ _ _ _ h => h
theorem ty_all : ∀ {ds : List D}, (∀ d ∈ ds, Tupy d) → ∀ (F F' : Hp) (vs : List V), (∀ a vs, Rd F a (.tup vs) → Rd F' a (.tup vs)) → AllD F ds vs → AllD F' ds vs
  | [], _, F, F', [], _, _ => trivial
  | [], _, F, F', _ :: _, _, q => q.elim
  | d :: ds, h, F, F', [], _, q => q.elim
  | d :: ds, h, F, F', v :: vs, g, q => ⟨h d List.mem_cons_self F F' v g q.1, ty_all (fun e he => h e (List.mem_cons_of_mem _ he)) F F' vs g q.2⟩
theorem ty_T (h : ∀ d ∈ ds, Tupy d) : Tupy (dTup G.K ds) := fun F F' v g ⟨a, vs, h1, h2, h3⟩ => ⟨a, vs, h1, h2.imp (g a vs) id, ty_all h F F' vs g h3⟩
theorem ty_O {o : Option α} (h : ∀ a, Tupy (f a)) : Tupy (dO f o) := by
  cases o with
  | none => exact ty_V
  | some a => exact h a
theorem ty_Vt {xs : List α} (h : ∀ a, Tupy (f a)) : Tupy (dTup G.K (xs.map f)) := ty_T fun d hd => by
  obtain ⟨a, _, rfl⟩ := List.mem_map.mp hd
  exact h a
theorem ty_nil : ∀ d ∈ ([] : List D), Tupy d := fun _ h => nomatch h
theorem ty_cons (h : Tupy d) (hr : ∀ e ∈ ds, Tupy e) : ∀ e ∈ d :: ds, Tupy e := fun e he => by
  rcases List.mem_cons.mp he with rfl | he
  · exact h
  · exact hr e he
theorem ty_Sy {s : Sy} : Tupy (dSy G.K s) := by
  refine ty_T fun d hd => ?_
  cases s with
  | knew a b => exact ty_cons ty_S (ty_cons ty_S (ty_cons ty_V ty_nil)) d hd
  | unheard a b => cases b <;> exact ty_cons ty_S (ty_cons ty_S (ty_cons ty_V ty_nil)) d hd
  | silent a b c => exact ty_cons ty_S (ty_cons ty_S (ty_cons ty_V (ty_cons ty_V ty_nil))) d hd
  | barred a b => exact ty_cons ty_S (ty_cons ty_S (ty_cons ty_S ty_nil)) d hd
theorem e_callBorT [Calm C] {S : SpecD} (cal : Callee G k x S) (hk : k ≤ C.k) (g : Glo C x) (hS : S ds' [] (RK.val d [])) (td : Tupy d) (nt : NoTups O) (ha : A G C (e :: es) Γ O ds) (cv : Cv O ds ds') (hs : ∀ env, starEach (e :: es) env = (false, eval e env) :: starEach es env) : E G C (.Call (.Name x p1) (e :: es) [] pos) Γ O d := .mk fun X c F σ H hh Q q => by
  obtain ⟨f, fd, ps, Fn, gx, kp, bi⟩ := cal.ex
  have Fn' : FnOk X.prog X.w X.K X.mg X.base (CX X.prog X.w) k f fd ps (spD S) := by rw [c.p, c.w, c.K, c.mg, c.base]; exact Fn
  refine we_of (pe_call (dvs := []) (E := E0) Fn' (c.room.mono hk) (c.gl g) (by rw [c.mg]; exact gx) (by rw [c.K]; exact kp) (by rw [c.K]; exact bi) .nil passL pa_can g.2.1 (hs X.env) ?_) (ha.run X c F σ H hh _ fun F1 H1 vs e1 h1 d1 => ?_)
  · have a := ha.bt pos X.env
    rw [hs] at a
    unfold backTo at a ⊢
    rw [List.map_cons, List.any_cons] at a
    exact (Bool.or_eq_false_iff.mp a).2
  · rw [List.append_nil]
    refine ⟨ds', [], _, H1, hS, HoldO.all H1, cv.to F1 H1 vs h1.ho d1, fun v H' hv => ?_, fun _ _ _ z => z⟩
    obtain ⟨F2, e2, h2, d2⟩ := hv
    have hF : ∃ F3 : Hp, (∀ q ∈ O, F3 q.1 = none) ∧ (∀ a, (∀ q ∈ O, q.1 ≠ a) → F3 a = F2 a) ∧ Gw F3 F2 := by
      refine ⟨fun a => if a ∈ O.map (·.1) then none else F2 a, fun q hq => if_pos (List.mem_map_of_mem hq), fun a ha => if_neg fun z => ?_, fun a o ho => ?_⟩
      · obtain ⟨q, hq, e⟩ := List.mem_map.mp z
        exact ha q hq e
      · have ho : (if a ∈ O.map (·.1) then none else F2 a) = some o := ho
        by_cases z : a ∈ O.map (·.1)
        · rw [show (if a ∈ O.map (·.1) then none else F2 a) = none from if_pos z] at ho
          cases ho
        · rw [show (if a ∈ O.map (·.1) then none else F2 a) = F2 a from if_neg z] at ho
          exact ho
    obtain ⟨F3, n3, a3, g3⟩ := hF
    have g13 : Gw F1 F3 := fun a o ho => by
      rw [a3 a fun q hq z => by
        have := (h1.ho.ow q hq).1
        rw [z, ho] at this
        cases this]
      exact e2 a o (h1.ho.ex a o ho)
    have hH : Gw H1 H' := e2.trans h2.ex
    refine q F3 H' v (e1.trans g13) ⟨h1.fr.mono g13, g3.trans h2.ex, h1.ho.nd, fun q hq => ?_⟩ (td F2 F3 v (fun a vs hr => ?_) d2)
    · obtain ⟨_, o, h4, h5⟩ := h1.ho.ow q hq
      exact ⟨n3 q hq, o, hH _ _ h4, q.2.mono g13 h5⟩
    · have hne : ∀ q ∈ O, q.1 ≠ a := fun q hq z => by
        obtain ⟨_, o, h4, h5⟩ := h1.ho.ow q hq
        have h6 := e2 _ _ h4
        rw [z] at h6
        obtain ⟨w1, w2⟩ := nt q hq F1 vs
        rcases hr with hr | ⟨o2, hr⟩
        · rw [hr] at h6
          cases h6
          exact w1 h5
        · rw [hr] at h6
          cases h6
          exact w2 _ h5
      rcases hr with hr | ⟨o2, hr⟩
      · exact .inl ((a3 a hne).trans hr)
      · exact .inr ⟨o2, (a3 a hne).trans hr⟩
theorem ss_boolI {A : Type} {b : Bool} {x y : A} (ι : A → Out S1 R) (h1 : b = true → SS G C ss Γ O kk (ι x)) (h2 : b = false → SS G C ss Γ O kk (ι y)) : SS G C ss Γ O kk (ι (if b = true then x else y)) := by
  cases b
  · exact h2 rfl
  · exact h1 rfl
end
end Kn
namespace Kn
open PySem PySem.Spec PyProof.Rows L2
def RK.sum {ε α : Type} (G : Cfg) (fx : ε → Xd) (fd : α → D) (O : Own) : Except ε α → RK
  | .ok a => RK.val (fd a) O
  | .error e => RK.exc G (fx e) O
def fnSm {ε α : Type} (fx : ε → Xd) (fd : α → D) (G : Cfg) (O : Own) : Ek Empty (Except ε α) := ⟨fun e => e.elim, fun r => RK.sum G fx fd O r, fun _ => XD.no⟩
def ls {ε α β : Type} (o : Except ε α) (g : ε → β) (f : α → β) : β := match o with
  | .ok a => f a
  | .error e => g e
section
variable {G : Cfg} {C : Sc} {Γ Γ1 : Fr} {O O1 : Own} {S S1 S2 R R2 B : Type} {kk : Ek S1 R} {oo : Out S1 R} {e a b c : Expr} {es : List Expr} {d d' : D} {ds ds' : List D} {ss suite body : List Stmt} {h₀ : ExceptHandler} {hds : List ExceptHandler} {pos pos' np p1 p2 p3 : Pos} {x y n m : Str} {i j k : Nat} {xd : Xd} {α ε : Type} {f : α → D}
theorem ss_sum {r0 : ε → B} {r1 : α → B} (ι : B → Out S1 R) (o : Except ε α) (he : ∀ z, o = .error z → SS G C ss Γ O kk (ι (r0 z))) (hs : ∀ z, o = .ok z → SS G C ss Γ O kk (ι (r1 z))) : SS G C ss Γ O kk (ι (ls o r0 r1)) := by
  cases o with
  | ok z => exact hs z rfl
  | error z => exact he z rfl
theorem ss_opt {r0 : B} {r1 : α → B} {Γ : Option α → Fr} (ι : B → Out S1 R) (o : Option α) (hn : o = none → SS G C ss (Γ none) O kk (ι r0)) (hs : ∀ y, o = some y → SS G C ss (Γ (some y)) O kk (ι (r1 y))) : SS G C ss (Γ o) O kk (ι (lo o r0 r1)) := by
  cases o with
  | none => exact hn rfl
  | some z => exact hs z rfl
theorem InC.nox {X : Cx} (c : InC G C X) : InC G C X.nox := ⟨c.p, c.w, c.K, c.mg, c.base, c.n, c.sc, c.calm, c.un, c.dp, c.hdl, c.st, PassesOwn.never, c.fn⟩
theorem ss_tryOk (hb : SS G C body Γ O (⟨fun _ => SD.of Γ1 O1, fun e => e.elim, fun _ => XD.no⟩ : Ek Unit Empty) (.nx ())) (hr : SS G C ss Γ1 O1 kk oo) : SS G C (.Try body (h₀ :: hds) [] [] pos :: ss) Γ O kk oo := .mk fun X c W tk F σ H hh D m => by
  refine wss_of (pss_cons (ps_try_thru0 (t := WSs X.nox body) pss_can) pss_can) ?_
  refine hb.run X.nox c.nox (fun _ _ _ _ => False) (fun u s' xx => by
    obtain ⟨_, _, _, _, _, _, _, _, _, _, _, _, _, _, _, _, z⟩ := xx
    exact z.elim) F σ H hh _ ?_
  intro σ1 H1 q
  obtain ⟨F1, e1, h1⟩ := q
  exact hr.run X c W tk F1 σ1 H1 h1 D (meet.mono e1 m)
theorem ss_tryAsg {x : Str} (l : Loca C i x) (hs : ∀ env, swapsWith e (some (.Name x p1)) p2.line env = pure false) (h : E G C e Γ O d) (hr : SS G C ss (Γ.set i (some d)) O kk oo) : SS G C (.Try [.Assign [.Name x p1] e p2] (h₀ :: hds) [] [] pos :: ss) Γ O kk oo := by
  refine ss_tryOk (Γ1 := Γ.set i (some d)) (O1 := O) ?_ hr
  refine ss_asg (f := fun _ : Unit => d) (a := ()) (g := fun _ => ()) Out.nx l hs h fun y hy => ?_
  exact ss_nil fun F σ H q => ⟨F, Gw.refl F, q⟩
theorem ss_exA {o : Out S1 R} {x : Str} (h : EX G C e Γ O xd) (l : Loca C i x) (hs : ∀ env, swapsWith e (some (.Name x p1)) pos.line env = pure false) (hm : ∀ F D W, meet kk F D W o → ∀ F' c d σ H, Gw F F' → Hold F' Γ O σ H → xok G xd F' c d → W c d σ H) : SS G C (.Assign [.Name x p1] e pos :: ss) Γ O kk o := .mk fun X c W tk F σ H hh D m =>
  wss_of (pss_cons (ps_set (i := i) (by rw [c.n]; exact l.nd) (by rw [c.n]; exact l.n) (by rw [c.sc]; exact l.l) pe_can (hs X.env) (by rcases l.f with h | h; exact .inl (c.fn h x); exact .inr (by rw [c.sc]; exact h))) pss_can) (h.run X c W tk F σ H hh (fun F' c d H' e1 h1 hx => hm F D W m F' c d σ H' e1 h1 hx) _)
theorem ss_tryXR {r : R} {b₀ : Stmt} (top : C.top = true) (nd : C.N.Nodup) (hi : C.N[i]? = some n) (hl : C.sc.names.lookup n = some .local) (gy : Glo C y) (ct : Caught G xd.n y)
    (hb : SS G C body Γ O (kx (S := Empty) (R := Empty) G xd Γ1 O1) (.ex exn0)) (hu : SS G C.cold (b₀ :: suite) (Γ1.set i (some (dX G xd))) O1 (kk.to fun _ : Unit => SD.of [] []) (.rt r))
    (hq : (kk.rs r).NoX) : SS G C (.Try body [.ExceptHandler (some (.Name y np)) (some n) (b₀ :: suite) pos'] [] [] pos :: ss) Γ O kk (.rt r) :=
  ss_tryX (S2 := Unit) (o1 := .rt r) (g := fun _ => .rt r) (fun _ => []) (fun _ => []) top nd hi hl gy ct hb hu hq (fun _ z => nomatch z)
theorem t_or1 (h : T G C a Γ O true) : TW G C (.BoolOp .Or (a :: b :: es) pos) Γ O true := w_or (k' := false) h (fun z => nomatch z)
end
end Kn
namespace Kn
open PySem PySem.Spec PyProof.Rows L2
section
variable {G : Cfg} {C : Sc} {Γ : Fr} {O : Own} {P : Own → Prop} {S S1 R B A : Type} {k : Ek S R} {o : Out S R} {it tg a b c : Expr} {ds : List D} {ss body ta tb : List Stmt} {pos p1 p2 : Pos} {α : Type} {f : α → D} {is : List Nat} {n : Nat} {p : Addr}
theorem en_catO {xs ys : List α} (hk : O[n]? = some (p, oLst (xs.map f))) (ha : E G C a Γ O (dP p)) (hb : E G C b Γ O (dLst G.K (ys.map f))) (hl : xs.length + ys.length ≤ sizeLine) : EN G C (.BinOp a .Add b pos) Γ O (oLst ((xs ++ ys).map f)) := .mk fun X c F σ H hh Q q => by
  refine we_of (pe_op op_catL pe_can pe_can) (ha.run X c F σ H hh _ fun F1 H1 v e1 h1 d1 => ?_)
  refine hb.run X c F1 σ H1 h1 _ fun F2 H2 u e2 h2 d2 => ?_
  have d1' : v = .ref p := d1
  subst d1'
  obtain ⟨_, ob, hp, vs, rfl, h3⟩ := h2.ho.at hk
  obtain ⟨p', us, rfl, hs', h4⟩ := d2
  refine ⟨p, p', vs, us, rfl, rfl, .inl (Rd.of hp), by rw [c.K]; exact hs'.mono h2.ho.ex, by rw [AllD.length h3, AllD.length h4, List.length_map, List.length_map]; exact hl, fun r hr => ?_⟩
  exact q F2 _ r (e1.trans e2) ⟨h2.fr, h2.ho.own hr ⟨_, rfl, by rw [List.map_append]; exact AllD.append h3 h4⟩⟩
theorem hold_endA {Γ1 : A → Fr} {O1 : A → Own} (a : A) (l : FrLe Γ (Γ1 a)) : ∀ F σ H, Hold F Γ (O1 a) σ H → (SD.some' fun a => SD.of (Γ1 a) (O1 a)).ok F σ H := fun F σ H hh => ⟨a, F, Gw.refl F, hh.fr.le l, hh.ho⟩
theorem ss_foldA [Calm C] {df : α → D} {xs : List α} {f : S1 → α → S1} {s0 : S1} {a0 : A} {g : S1 → B} (ι : B → Out S R) (Γ1 : S1 → A → Fr) (Γ2 : S1 → A → α → Fr) (O1 : S1 → A → Own) (hi : EI G C tg it Γ O P (xs.map df)) (l0 : FrLe Γ (Γ1 s0 a0)) (o0 : O = O1 s0 a0) (hP : ∀ s a, P (O1 s a))
    (hg : ∀ s a x, TJ G C tg (df x) (Γ1 s a) (Γ2 s a x) is)
    (hb : ∀ s a x pre post, xs = pre ++ x :: post → s = pre.foldl f s0 → SS G C body (Γ2 s a x) (O1 s a) (k.to fun s => SD.some' fun a => SD.of (Γ1 s a) (O1 s a)) (.nx (f s x)))
    (hr : ∀ s a, s = xs.foldl f s0 → SS G C ss (Γ1 s a) (O1 s a) k (ι (g s))) (hs : ∀ env x, foldedSetIterable it env x = pure x) : SS G C (.For tg it body [] pos :: ss) Γ O k (ι (lt (xs.foldl f s0) g)) :=
  ss_cons (t := fun X => tFor (WI X tg it) (WG X tg) (WSs X body)) (fun X c => ps_for c.po c.cm pi_can pg_can pss_can (hs X.env)) fun X c W tk F σ H hh D m => by
    refine hi.run X c F σ H hh _ fun J F1 H1 e1 h1 fd => ?_
    refine ⟨fun i mm σ' H' => ∃ a F', mm = xs.length - i ∧ i ≤ xs.length ∧ Gw F1 F' ∧ Hold F' (Γ1 ((xs.take i).foldl f s0) a) (O1 ((xs.take i).foldl f s0) a) σ' H', ⟨xs.length, a0, F1, rfl, Nat.zero_le _, Gw.refl _, h1.fr.le l0, o0 ▸ h1.ho⟩, ?_⟩
    rintro i mm σ' H' ⟨a, F', rfl, hil, e2, h2⟩
    by_cases hlt : i < xs.length
    · have hd : (xs.map df)[i]? = some (df xs[i]) := by rw [List.getElem?_map, List.getElem?_eq_getElem hlt]; rfl
      have hsplit : xs = xs.take i ++ xs[i] :: xs.drop (i + 1) := by
        have a := List.take_append_drop i xs
        rw [List.drop_eq_getElem_cons hlt] at a
        exact a.symm
      have itm := fd.item i _ hd F' _ H' (hP _ a) e2 h2.ho
      refine .inr ⟨itm.1, fun σ3 H3 => ∃ a3 F3, Gw F1 F3 ∧ Hold F3 (Γ1 ((xs.take (i + 1)).foldl f s0) a3) (O1 ((xs.take (i + 1)).foldl f s0) a3) σ3 H3, ?_, fun x H3 hy => ?_⟩
      · rintro σ3 H3 ⟨a3, F3, x3, h3⟩
        exact ⟨xs.length - (i + 1), by omega, a3, F3, rfl, hlt, x3, h3⟩
      · obtain ⟨F3, e3, h3, d3⟩ := itm.2 x H3 hy
        refine (hg _ a xs[i]).run X c F3 _ σ' H3 x ⟨h2.fr.mono e3, h3⟩ d3 _ fun σ4 h4 _ => ?_
        refine (hb _ a xs[i] (xs.take i) (xs.drop (i + 1)) hsplit rfl).run X c W tk F3 σ4 H3 h4 _ ?_
        intro σ5 H5 q
        obtain ⟨a5, F5, e5, h5⟩ := q
        refine ⟨a5, F5, (e2.trans e3).trans e5, ?_⟩
        have ht : xs.take (i + 1) = xs.take i ++ [xs[i]] := List.take_succ_eq_append_getElem hlt
        rw [ht, List.foldl_append]
        exact h5
    · have hi' : i = xs.length := by omega
      subst hi'
      refine .inl ⟨?_, ?_⟩
      · have q := fd.stop F' _ H' (hP _ a) e2 h2.ho
        rwa [List.length_map] at q
      · rw [List.take_length] at h2
        exact (hr _ a rfl).run X c W tk F' σ' H' h2 D (meet.mono (e1.trans e2) m)
end
theorem op_mulC {X : Cx} : OpR X (binaryOp .Mult) (fun x y H Q => ∃ a n, x = .str a ∧ y = .int n ∧ MulOk a n ∧ Q (.str (Txt.mul a n)) H) := by
  intro pins s σ H x y v u Q I rx ry h
  obtain ⟨a, n, rfl, rfl, hn, q⟩ := h
  obtain ⟨t, rfl⟩ := rx
  obtain ⟨t', rfl⟩ := ry
  exact SB.mul hn fun t' tk => ⟨.str (Txt.mul a n), H, I.tok _, ⟨_, rfl⟩, q⟩
theorem mulOk_c {a : Str} {n : Int} (h0 : 2 ≤ n) (h1 : n ≤ 1000) (h2 : a.length = 1) : MulOk a n := by
  refine ⟨?_, fun _ _ => ?_, fun _ _ => ?_⟩
  · simp only [Bool.or_eq_false_iff, decide_eq_false_iff_not]
    omega
  · rw [h2]
    have : (1 : Int) * n ≤ 2 ^ 63 - 1 := by omega
    have := (Int.le_ediv_iff_mul_le (a := 1) (b := 2 ^ 63 - 1) (c := n) (by omega)).mpr (by omega)
    omega
  · rw [h2]
    refine decide_eq_false fun z => ?_
    rw [sizeLine_eq] at z
    omega
section
variable {G : Cfg} {C : Sc} {Γ : Fr} {O : Own} {a b : Expr} {pos : Pos}
theorem e_mulC {x y : Str} {i : Int} (ha : E G C a Γ O (dS x)) (hb : E G C b Γ O (dI i)) (h : MulOk x i) (e : Txt.mul x i = y) (hy : okSb y = true) : E G C (.BinOp a .Mult b pos) Γ O (dS y) :=
  e_op (da := dS x) (db := dI i) (fun _ _ => op_mulC) (fun F H v u hh h1 h2 Q q => ⟨x, i, h1.1, h2, h, by rw [e]; exact q F H _ (Gw.refl F) hh ⟨rfl, okS_of hy⟩⟩) ha hb
end
end Kn
namespace Kn
open PySem PySem.Spec L2
def top (i : Nat) : Stmt := PySem.Challenge.pw_knewby_k75_whole_bounds.main.body.getD i (.Pass ⟨0, 0, 0, 0⟩)
def K_FIGURES : Str := "0123456789"
def K_KEPT_WORDS : List Str := ["person", "talk", "saw", "knew", "heard", "told", "not", "nobody", "never", "by", "from", "to"]
def K_KINDS : List Str := ["person", "saw", "talk"]
def K_LETTERS : Str := "abcdefghijklmnopqrstuvwxyz"
def K_MOST : List Int := [24, 24, 120, 60]
end Kn
namespace Kn
open PySem PySem.Spec L2
def hdFa0 : List He.Fa := [.glo "hour_in", .glo "saying_in", .glo "talk_in", .glo "is_whole", .glo "is_hour", .glo "are_two", .glo "is_saying", .glo "is_name", .glo "is_tuple_of", .glo "is_tale", .glo "is_sight", .glo "is_talk", .glo "told_by", .glo "_law_names", .glo "_law_many", .glo "are_persons", .glo "are_all", .glo "read_book", .glo "_law_kind_rows", .glo "law", .glo "Book", .cls "Book", .meth "Book" "persons", .meth "Book" "sights", .meth "Book" "talks", .meth "Book" "sayings", .mkr "Book", .noat "Book" "claims", .noat "Book" "crew", .noat "Book" "meetings"]
def hdFa1 : List He.Fa := [.noat "Book" "views", .glo "KnewError", .glo "NoRow", .exm "NoRow" "NoRow" true, .free "bool", .free "enumerate", .free "int", .free "isinstance", .free "len", .free "list", .free "range", .free "set", .free "str", .free "tuple", .str "FIGURES" K_FIGURES, .glo "KEPT_WORDS", .glo "KINDS", .int "LAST_HOUR" 1000000000000000000, .str "LETTERS" K_LETTERS, .int "LONGEST" 12, .glo "MOST", .int "MOST_FIGURES" 19, .int "MOST_PERSONS" 24, .int "MOST_SAYINGS" 60, .int "MOST_SIGHTS" 24, .int "MOST_TALKS" 120, .int "MOST_WORDS" 6]
def hdFa : List He.Fa := hdFa0 ++ hdFa1
def hdFn0 : List He.DefD := [⟨("hour_in", none), "hour_in", "hour_in", defArgs (top 33), defBody (top 33), defScope (top 33), [], []⟩, ⟨("saying_in", none), "saying_in", "saying_in", defArgs (top 34), defBody (top 34), defScope (top 34), [], []⟩, ⟨("talk_in", none), "talk_in", "talk_in", defArgs (top 35), defBody (top 35), defScope (top 35), [], []⟩, ⟨("is_whole", none), "is_whole", "is_whole", defArgs (top 10), defBody (top 10), defScope (top 10), [], []⟩, ⟨("is_hour", none), "is_hour", "is_hour", defArgs (top 11), defBody (top 11), defScope (top 11), [], []⟩, ⟨("are_two", none), "are_two", "are_two", defArgs (top 23), defBody (top 23), defScope (top 23), [], []⟩, ⟨("is_saying", none), "is_saying", "is_saying", defArgs (top 25), defBody (top 25), defScope (top 25), [], []⟩, ⟨("is_name", none), "is_name", "is_name", defArgs (top 12), defBody (top 12), defScope (top 12), [], []⟩, ⟨("is_tuple_of", none), "is_tuple_of", "is_tuple_of", defArgs (top 19), defBody (top 19), defScope (top 19), [], []⟩, ⟨("is_tale", none), "is_tale", "is_tale", defArgs (top 21), defBody (top 21), defScope (top 21), [], []⟩, ⟨("is_sight", none), "is_sight", "is_sight", defArgs (top 22), defBody (top 22), defScope (top 22), [], []⟩, ⟨("is_talk", none), "is_talk", "is_talk", defArgs (top 24), defBody (top 24), defScope (top 24), [], []⟩, ⟨("told_by", none), "told_by", "told_by", defArgs (top 36), defBody (top 36), defScope (top 36), [], []⟩, ⟨("_law_names", none), "_law_names", "_law_names", defArgs (top 39), defBody (top 39), defScope (top 39), [], []⟩, ⟨("_law_many", none), "_law_many", "_law_many", defArgs (top 40), defBody (top 40), defScope (top 40), [], []⟩, ⟨("are_persons", none), "are_persons", "are_persons", defArgs (top 20), defBody (top 20), defScope (top 20), [], []⟩, ⟨("are_all", none), "are_all", "are_all", defArgs (top 26), defBody (top 26), defScope (top 26), [], []⟩, ⟨("read_book", none), "read_book", "read_book", defArgs (top 37), defBody (top 37), defScope (top 37), [], []⟩, ⟨("_law_kind_rows", none), "_law_kind_rows", "_law_kind_rows", defArgs (top 41), defBody (top 41), defScope (top 41), [], []⟩, ⟨("law", none), "law", "law", defArgs (top 42), defBody (top 42), defScope (top 42), [], []⟩]
def hdFn1 : List He.DefD := [⟨("Book", some "persons"), "persons", "Book.persons", defArgs (inClass (top 27) 1), defBody (inClass (top 27) 1), defScope (inClass (top 27) 1), [], []⟩, ⟨("Book", some "sights"), "sights", "Book.sights", defArgs (inClass (top 27) 2), defBody (inClass (top 27) 2), defScope (inClass (top 27) 2), [], []⟩, ⟨("Book", some "talks"), "talks", "Book.talks", defArgs (inClass (top 27) 3), defBody (inClass (top 27) 3), defScope (inClass (top 27) 3), [], []⟩, ⟨("Book", some "sayings"), "sayings", "Book.sayings", defArgs (inClass (top 27) 4), defBody (inClass (top 27) 4), defScope (inClass (top 27) 4), [], []⟩, ⟨("Book", some "__init__"), "__init__", "Book.__init__", defArgs (inClass (top 27) 0), defBody (inClass (top 27) 0), defScope (inClass (top 27) 0), [], []⟩, ⟨("NoRow", some "__init__"), "__init__", "NoRow.__init__", defArgs (inClass (top 4) 0), defBody (inClass (top 4) 0), defScope (inClass (top 4) 0), [], []⟩]
def hdFn : List He.DefD := hdFn0 ++ hdFn1
def hdEx (K : PySem.W.Frag) : Bool := He.tupB K "KEPT_WORDS" (K_KEPT_WORDS.map He.Dv.str) && He.tupB K "KINDS" (K_KINDS.map He.Dv.str) && He.tupB K "MOST" (K_MOST.map He.Dv.int) && tupIB K "KINDS" && defxB K "NoRow" "KnewError" "row" && xfaB K "NoRow" "row"
def obsMS (n : Nat) (fa : List He.Fa) (fn : List He.DefD) (ex : PySem.W.Frag → Bool) (g : Addr → Option Obj) : AlM := lt (He.frG g (He.asD g n ++ [PySem.cStatics])) fun K => (He.obsD fa fn K, ex K)
def hookMS (n : Nat) (fa : List He.Fa) (fn : List He.DefD) (ex : PySem.W.Frag → Bool) : PySem.W.Hook where
  α := AlM
  obs := fun s => obsMS n fa fn ex s.heap.get?
  val := fun _ => (He.valD fn, true)
  says := fun _ h => ∃ K : PySem.W.Frag, K.In h ∧ SaysM fa fn ex K
  of := fun _ _ e => ⟨_, He.frG_in, ⟨congrArg (fun z : AlM => z.1) e, congrArg (fun z : AlM => z.2) e⟩⟩
  keeps := fun _ _ _ ⟨K, hK, c⟩ k => ⟨K, PySem.W.Frag.In.keeps hK k, c⟩
theorem obsMS_eq {n : Nat} {fa : List He.Fa} {fn : List He.DefD} {ex : PySem.W.Frag → Bool} {g : Addr → Option Obj} {s : Shared} (h : ∀ a, g a = s.heap.get? a) : obsMS n fa fn ex g = (hookMS n fa fn ex).obs s := by
  have e : g = s.heap.get? := funext h
  rw [e]
  rfl
abbrev HdR : PySem.W.OpenRow := PySem.W.OpenLaw.row PySem.Challenge.rw_knewby_k75_whole_bounds
abbrev hdHk : PySem.W.Hook := hookMS 5 hdFa hdFn hdEx
def hdOb (s : PySem.W.SharedT) : AlM := obsMS 5 hdFa hdFn hdEx (HandSHeadRun.getT s)
theorem hdOb_eq (s : PySem.W.SharedT) : hdOb s = hdHk.obs s.abs := obsMS_eq (HandSHeadRun.getT_eq s)
def hdL0 : List Str := ["_wall", "KnewError", "NoBook", "NoRow", "LETTERS", "KEPT_WORDS", "LONGEST", "LAST_HOUR", "is_whole", "is_hour", "is_name", "MOST_PERSONS", "MOST_SIGHTS", "MOST_TALKS", "MOST_SAYINGS", "MOST_WORDS", "is_tuple_of", "are_persons", "is_tale", "is_sight", "are_two", "is_talk", "is_saying", "are_all", "Book", "FIGURES", "MOST_FIGURES", "KINDS", "MOST", "hour_in"]
def hdL1 : List Str := ["saying_in", "talk_in", "told_by", "read_book", "_law_names", "_law_many", "_law_kind_rows"]
def hdLoose : List Str := hdL0 ++ hdL1
theorem hd_run (w : World) : HandSHeadRun.RunEq HdR (PySem.W.view HdR.prog [42]) hdHk hdOb 8000 hdLoose w := by
  intro os
  kernel_rfl
end Kn
namespace Kn
open PySem PySem.Spec L2
def m_P_hour_in (a_word : Str) : Int :=
  (if ((!((decide ((1 : Int) ≤ (a_word.length : Int))) && (decide ((a_word.length : Int) ≤ (19 : Int))))) || ((decide ((signAt a_word (0 : Int)) = ("0" : Str))) && (decide ((1 : Int) < (a_word.length : Int))))) then
    (-(1 : Int))
  else
  lp (loopL (R := Int) (fun (s_6 : Unit) (x_7 : Str) =>
    (if (!hasSign K_FIGURES x_7) then
      (Ret.rt (-(1 : Int)))
    else
      (Ret.nx ()))) (signs a_word) ()) fun (s_6 : Unit) =>
  (if (decide ((1000000000000000000 : Int) < (digV a_word))) then
    (-(1 : Int))
  else
  (digV a_word)))
theorem fig_signs : K_FIGURES.cps.toList = [48, 49, 50, 51, 52, 53, 54, 55, 56, 57] := by decide +kernel
theorem loop_pass {α R : Type} {p : α → Bool} {r : R} : ∀ {xs : List α} {u : Unit}, loopL (R := R) (fun (_ : Unit) (x : α) => if (!p x) = true then Ret.rt r else Ret.nx ()) xs () = .nx u → ∀ x ∈ xs, p x = true
  | [], _, _, x, h => nomatch h
  | y :: xs, u, q, x, h => by
    rw [loopL] at q
    cases hp : p y with
    | true =>
      rw [hp] at q
      rcases List.mem_cons.mp h with rfl | h
      · exact hp
      · exact loop_pass (u := u) q x h
    | false =>
      rw [hp] at q
      cases q
theorem fig_iff {c : Nat} : hasSign K_FIGURES ⟨#[c]⟩ = true ↔ 48 ≤ c ∧ c ≤ 57 := by
  unfold hasSign
  rw [decide_eq_true_eq]
  unfold signs
  rw [fig_signs]
  constructor
  · intro h
    obtain ⟨d, hd, e⟩ := List.mem_map.mp h
    have e2 : d = c := by
      have := congrArg (fun z : Str => z.cps.toList) e
      simpa using this
    subst e2
    simp only [List.mem_cons, List.not_mem_nil, or_false] at hd
    omega
  · intro h
    refine List.mem_map.mpr ⟨c, ?_, rfl⟩
    simp only [List.mem_cons, List.not_mem_nil, or_false]
    omega
theorem len19 {w : Str} {z : Bool} (h : ((!((decide ((1 : Int) ≤ (w.length : Int))) && (decide ((w.length : Int) ≤ (19 : Int))))) || z) = false) : 1 ≤ w.length ∧ w.length ≤ 19 := by
  simp only [Bool.or_eq_false_iff, Bool.not_eq_false', Bool.and_eq_true, decide_eq_true_eq] at h
  omega
theorem digits_read {w : Str} {u : Unit} (h : 1 ≤ w.length ∧ w.length ≤ 19) (q : loopL (R := Int) (fun (_ : Unit) (x : Str) => if (!hasSign K_FIGURES x) = true then Ret.rt (-(1 : Int)) else Ret.nx ()) (signs w) () = .nx u) : (PySem.intText? w).isSome = true := by
  have ha : NumText.AllDigits w.cps.toList := fun c hc => fig_iff.mp (loop_pass q ⟨#[c]⟩ (List.mem_map.mpr ⟨c, hc, rfl⟩))
  have hn : w.cps.toList ≠ [] := fun z => by
    have : w.length = 0 := by rw [TL.len_tl]; exact congrArg List.length z
    omega
  rw [PySem.intText_digits ha hn (by omega)]
  rfl
def m_P_saying_in (a_words : (List Str)) : (Option Sy) :=
  (if ((decide ((a_words.length : Int) = (4 : Int))) && (decide ((cut a_words (some (1 : Int)) (some (3 : Int))) = [("knew" : Str), ("by" : Str)]))) then
    (some (Sy.knew (nth a_words (0 : Int)) (m_P_hour_in (nth a_words (3 : Int)))))
  else
  (if (decide ((cut a_words (some (1 : Int)) none) = [("heard" : Str), ("nobody" : Str), ("never" : Str)])) then
    (some (Sy.unheard (nth a_words (0 : Int)) (none : (Option Int))))
  else
  (if ((decide ((a_words.length : Int) = (5 : Int))) && (decide ((cut a_words (some (1 : Int)) (some (4 : Int))) = [("heard" : Str), ("nobody" : Str), ("by" : Str)]))) then
    (some (Sy.unheard (nth a_words (0 : Int)) (some (m_P_hour_in (nth a_words (4 : Int))))))
  else
  (if ((decide ((a_words.length : Int) = (5 : Int))) && (decide ((cut a_words (some (1 : Int)) (some (4 : Int))) = [("heard" : Str), ("not" : Str), ("from" : Str)]))) then
    (some (Sy.barred (nth a_words (0 : Int)) (nth a_words (4 : Int))))
  else
  (if ((decide ((a_words.length : Int) = (7 : Int))) && ((decide ((cut a_words (some (1 : Int)) (some (4 : Int))) = [("told" : Str), ("nobody" : Str), ("from" : Str)])) && (decide ((nth a_words (5 : Int)) = ("to" : Str))))) then
    (some (Sy.silent (nth a_words (0 : Int)) (m_P_hour_in (nth a_words (4 : Int))) (m_P_hour_in (nth a_words (6 : Int)))))
  else
  (none : (Option Sy)))))))
def m_P_talk_in (a_words : (List Str)) : (Option (Int × Str × Str × Str)) :=
  (if (decide ((a_words.length : Int) = (4 : Int))) then
    (some ((m_P_hour_in (nth a_words (1 : Int))), (nth a_words (2 : Int)), (nth a_words (3 : Int)), ("both" : Str)))
  else
  (if ((decide ((a_words.length : Int) = (5 : Int))) && (decide ((nth a_words (3 : Int)) = ("to" : Str)))) then
    (some ((m_P_hour_in (nth a_words (1 : Int))), (nth a_words (2 : Int)), (nth a_words (4 : Int)), ("one" : Str)))
  else
  (none : (Option (Int × Str × Str × Str)))))
def m_P_is_whole (a_thing : Va) : Bool :=
  ((isA "int" a_thing) && (!(isA "bool" a_thing)))
theorem whole_isA {x : Va} (h : m_P_is_whole x = true) : isA "int" x = true ∧ isA "bool" x = false := ⟨andL h, notT (andR h)⟩
def m_P_is_hour (a_thing : Va) : Bool :=
  ((m_P_is_whole a_thing) && ((decide ((0 : Int) ≤ a_thing.asI)) && (decide (a_thing.asI ≤ (1000000000000000000 : Int)))))
def m_P_are_two (a_one : Str) (a_other : Str) (a_persons : (List Str)) : Bool :=
  ((decide (a_one ∈ a_persons)) && ((decide (a_other ∈ a_persons)) && (!decide (a_one = a_other))))
def m_P_is_saying (a_thing : Sy) (a_persons : (List Str)) : Bool :=
  (if ((!true) || ((decide (a_thing.len < (3 : Int))) || (!decide (a_thing.who ∈ a_persons)))) then
    false
  else
  (if (decide (a_thing.kd = ("silent" : Str))) then
    ((decide (a_thing.len = (4 : Int))) && ((m_P_is_hour (Va.int a_thing.h1)) && ((m_P_is_hour (Va.int a_thing.h2)) && (decide (a_thing.h1 ≤ a_thing.h2)))))
  else
  (if (!decide (a_thing.len = (3 : Int))) then
    false
  else
  (if (decide (a_thing.kd = ("knew" : Str))) then
    (m_P_is_hour (Va.int a_thing.h1))
  else
  (if (decide (a_thing.kd = ("unheard" : Str))) then
    ((a_thing.ho.isNone) || (m_P_is_hour ((vaO Va.int) a_thing.ho)))
  else
  ((decide (a_thing.kd = ("barred" : Str))) && (m_P_are_two a_thing.who a_thing.other a_persons)))))))
def m_P_is_name (a_thing : Va) : Bool :=
  (if ((!(isA "str" a_thing)) || ((!((decide ((1 : Int) ≤ (a_thing.asS.length : Int))) && (decide ((a_thing.asS.length : Int) ≤ (12 : Int))))) || (decide (a_thing.asS ∈ K_KEPT_WORDS)))) then
    false
  else
  lp (loopL (R := Bool) (fun (s_5 : Unit) (x_6 : Str) =>
    (if (!hasSign K_LETTERS x_6) then
      (Ret.rt false)
    else
      (Ret.nx ()))) (signs a_thing.asS) ()) fun (s_5 : Unit) =>
  true)
def m_P_is_tuple_of (a_thing : Va) (a_many : Int) : Bool :=
  ((isA "tuple" a_thing) && (decide ((a_thing.asT.length : Int) = a_many)))
def m_P_is_tale (a_thing : (List Str)) : Bool :=
  (if ((!true) || (!((decide ((1 : Int) ≤ (a_thing.length : Int))) && (decide ((a_thing.length : Int) ≤ (6 : Int)))))) then
    false
  else
  lp (loopL (R := Bool) (fun (s_4 : Unit) (x_5 : Str) =>
    (if (!(m_P_is_name (Va.str x_5))) then
      (Ret.rt false)
    else
      (Ret.nx ()))) a_thing ()) fun (s_4 : Unit) =>
  true)
def m_P_is_sight (a_thing : (Str × Int × (List Str))) (a_persons : (List Str)) : Bool :=
  (if (!(m_P_is_tuple_of ((fun x => Va.tup [Va.str x.1, Va.int x.2.1, (fun xs => Va.tup (xs.map Va.str)) x.2.2]) a_thing) (3 : Int))) then
    false
  else
  ((decide (a_thing.1 ∈ a_persons)) && ((m_P_is_hour (Va.int a_thing.2.1)) && (m_P_is_tale a_thing.2.2))))
def m_P_is_talk (a_thing : (Int × Str × Str × Str)) (a_persons : (List Str)) : Bool :=
  (if (!(m_P_is_tuple_of ((fun x => Va.tup [Va.int x.1, Va.str x.2.1, Va.str x.2.2.1, Va.str x.2.2.2]) a_thing) (4 : Int))) then
    false
  else
  ((m_P_is_hour (Va.int a_thing.1)) && ((m_P_are_two a_thing.2.1 a_thing.2.2.1 a_persons) && (decide (a_thing.2.2.2 ∈ [("both" : Str), ("one" : Str)])))))
def m_P_told_by_at_0 (a_words : (List Str)) (a_kind : Int) (a_persons : (List Str)) : (Option Str) :=
  (if ((decide ((a_words.length : Int) = (2 : Int))) && ((m_P_is_name (Va.str (nth a_words (1 : Int)))) && (!decide ((nth a_words (1 : Int)) ∈ a_persons)))) then
    (some (nth a_words (1 : Int)))
  else
  (none : (Option Str)))
def m_P_told_by_at_1 (a_words : (List Str)) (a_kind : Int) (a_persons : (List Str)) : (Option (Str × Int × (List Str))) :=
  (if (decide ((a_words.length : Int) < (4 : Int))) then
    (none : (Option (Str × Int × (List Str))))
  else
  lt ((nth a_words (1 : Int)), (m_P_hour_in (nth a_words (2 : Int))), (cut a_words (some (3 : Int)) none)) fun one_2 =>
  (if (m_P_is_sight one_2 a_persons) then (some one_2) else (none : (Option (Str × Int × (List Str))))))
def m_P_is_talk_at_n (a_thing : Unit) (a_persons : (List Str)) : Bool :=
  false
def m_P_told_by_at_2 (a_words : (List Str)) (a_kind : Int) (a_persons : (List Str)) : (Option (Int × Str × Str × Str)) :=
  lt (m_P_talk_in a_words) fun one_1 =>
  (lo one_1
    (if (m_P_is_talk_at_n () a_persons) then (none : (Option (Int × Str × Str × Str))) else (none : (Option (Int × Str × Str × Str))))
    (fun one_2 =>
    (if (m_P_is_talk one_2 a_persons) then (some one_2) else (none : (Option (Int × Str × Str × Str))))))
def m_P_is_saying_at_n (a_thing : Unit) (a_persons : (List Str)) : Bool :=
  false
def m_P_told_by_at_3 (a_words : (List Str)) (a_kind : Int) (a_persons : (List Str)) : (Option Sy) :=
  lt (m_P_saying_in a_words) fun one_1 =>
  (lo one_1
    (if (m_P_is_saying_at_n () a_persons) then (none : (Option Sy)) else (none : (Option Sy)))
    (fun one_2 =>
    (if (m_P_is_saying one_2 a_persons) then (some one_2) else (none : (Option Sy)))))
def m_L_names (a_cell : Int) : (List Str) :=
  lt ("bcdfghijklmnpqrstuvwxz" : Str) fun letters_1 =>
  lt ((((a_cell % (1000000000000000 : Int)) + (7 : Int)) * (48271 : Int)) % (2147483647 : Int)) fun number_2 =>
  lt (number_2 % (11 : Int)) fun many_here_3 =>
  lt (Str.join ("" : Str) ((upto many_here_3).map fun e_4 => (signAt letters_1 (((number_2 / (11 : Int)) + (((5 : Int) * e_4) * e_4)) % (22 : Int))))) fun stem_7 =>
  lt ((number_2 / (276 : Int)) % (many_here_3 + (1 : Int))) fun at_8 =>
  lt (signAt letters_1 ((number_2 / (13 : Int)) % (22 : Int))) fun more_9 =>
  lt ([] : List Str) fun names_here_10 =>
  lt ((upto (12 : Int)).foldl (fun (s_11 : (List Str)) (x_12 : Int) =>
    lt (((cutS stem_7 none (some at_8)) ++ (signAt letters_1 (((number_2 / (7 : Int)) + ((3 : Int) * x_12)) % (22 : Int)))) ++ (cutS stem_7 (some at_8) none)) fun name_20 =>
    lt (s_11 ++ ([name_20, (name_20 ++ more_9)])) fun names_here_21 =>
    names_here_21) names_here_10) fun (s_11 : (List Str)) =>
  s_11
theorem empty_len : ("" : Str).length = 0 := by decide +kernel
theorem inR_bi {b : Bool} : inR 2 (bi b) := by cases b <;> (show _ ∧ _; decide)
theorem join_signs {α : Type} {z : Str} {f : α → Int} {l : List α} : (Str.join ("" : Str) (l.map fun e => signAt z (f e))).length ≤ l.length := by
  have h := join_len ("" : Str) (l.map fun e => signAt z (f e))
  rw [List.map_map] at h
  simp only [Function.comp_def, signAt_len, List.map_const', List.sum_replicate_nat, empty_len] at h
  omega
theorem names_len (n : Int) : (m_L_names n).length = 24 := by
  unfold m_L_names
  simp only [lt]
  refine (foldl_measE (m := fun s : List Str => s.length) (c := 2) (fun s x => ?_)).trans ?_
  · rw [List.length_append]; rfl
  · rw [upto_len]; rfl
def m_L_many (a_cells : (List Int)) : (List Int) :=
  lt ((nth a_cells (3 : Int)) % (4 : Int)) fun at_3 =>
  lt (([(2 : Int), ((nth a_cells (0 : Int)) % (3 : Int)), ((nth a_cells (1 : Int)) % (3 : Int)), ((nth a_cells (2 : Int)) % (3 : Int))]).set at_3.toNat ((nth ([(24 : Int), (24 : Int), (120 : Int), (60 : Int)]) at_3) + ((nth a_cells (4 : Int)) % (3 : Int)))) fun many_here_4 =>
  many_here_4
def m_P_are_persons (a_thing : (List Str)) : Bool :=
  (if ((!true) || (!((decide ((1 : Int) ≤ (a_thing.length : Int))) && (decide ((a_thing.length : Int) ≤ (24 : Int)))))) then
    false
  else
  lp (loopL (R := Bool) (fun (s_4 : Unit) (x_5 : Str) =>
    (if (!(m_P_is_name (Va.str x_5))) then
      (Ret.rt false)
    else
      (Ret.nx ()))) a_thing ()) fun (s_4 : Unit) =>
  (decide (((nubS a_thing).length : Int) = (a_thing.length : Int))))
def m_P_are_all_at_is_sight (a_thing : (List (Str × Int × (List Str)))) (a_most : Int) (a_persons : (List Str)) : Bool :=
  (if ((!true) || (decide (a_most < (a_thing.length : Int)))) then
    false
  else
  lp (loopL (R := Bool) (fun (s_4 : Unit) (x_5 : (Str × Int × (List Str))) =>
    (if (!(m_P_is_sight x_5 a_persons)) then
      (Ret.rt false)
    else
      (Ret.nx ()))) a_thing ()) fun (s_4 : Unit) =>
  true)
def m_P_are_all_at_is_talk (a_thing : (List (Int × Str × Str × Str))) (a_most : Int) (a_persons : (List Str)) : Bool :=
  (if ((!true) || (decide (a_most < (a_thing.length : Int)))) then
    false
  else
  lp (loopL (R := Bool) (fun (s_4 : Unit) (x_5 : (Int × Str × Str × Str)) =>
    (if (!(m_P_is_talk x_5 a_persons)) then
      (Ret.rt false)
    else
      (Ret.nx ()))) a_thing ()) fun (s_4 : Unit) =>
  true)
def m_P_are_all_at_is_saying (a_thing : (List Sy)) (a_most : Int) (a_persons : (List Str)) : Bool :=
  (if ((!true) || (decide (a_most < (a_thing.length : Int)))) then
    false
  else
  lp (loopL (R := Bool) (fun (s_4 : Unit) (x_5 : Sy) =>
    (if (!(m_P_is_saying x_5 a_persons)) then
      (Ret.rt false)
    else
      (Ret.nx ()))) a_thing ()) fun (s_4 : Unit) =>
  true)
def goodBook (p : List Str) (s : List Sight) (t : List Talk) (y : List Sy) : Prop := m_P_are_persons p = true ∧ m_P_are_all_at_is_sight s 24 p = true ∧ m_P_are_all_at_is_talk t 120 p = true ∧ m_P_are_all_at_is_saying y 60 p = true
def lettersB : Str := "bcdfghijklmnpqrstuvwxz"
def plainS (t : Str) : Prop := ∀ c ∈ t.cps.toList, c ∈ lettersB.cps.toList
theorem letB_sign : ∀ c ∈ lettersB.cps.toList, (⟨#[c]⟩ : Str) ∈ signs K_LETTERS := by decide +kernel
theorem letB_kept : ∀ w ∈ K_KEPT_WORDS, ∃ c ∈ w.cps.toList, c ∉ lettersB.cps.toList := by decide +kernel
theorem letB_len : lettersB.cps.toList.length = 22 := by decide +kernel
theorem letB_nodup : lettersB.cps.toList.Nodup := by decide +kernel
theorem good_name {t : Str} (h1 : 1 ≤ t.length ∧ t.length ≤ 12) (h2 : plainS t) : m_P_is_name (Va.str t) = true := by
  have hk : t ∉ K_KEPT_WORDS := fun z => by
    obtain ⟨c, hc, hn⟩ := letB_kept t z
    exact hn (h2 c hc)
  have ha : (signs t).all (fun x => hasSign K_LETTERS x) = true := by
    rw [List.all_eq_true]
    intro s hs
    unfold signs at hs
    obtain ⟨c, hc, rfl⟩ := List.mem_map.mp hs
    exact decide_eq_true (letB_sign c (h2 c hc))
  unfold m_P_is_name
  have e1 : isA "str" (Va.str t) = true := rfl
  have e2 : (Va.str t).asS = t := rfl
  rw [e1, e2, loop_all (fun x => hasSign K_LETTERS x), ha]
  rw [decide_eq_true (show (1 : Int) ≤ (t.length : Int) by omega), decide_eq_true (show (t.length : Int) ≤ 12 by omega), decide_eq_false hk]
  rfl
structure NmP where
  stem : Str
  at_ : Int
  more : Str
  base : Int
def NmP.nm (p : NmP) (k : Int) : Str := ((cutS p.stem none (some p.at_)) ++ (signAt lettersB ((p.base + 3 * k) % 22))) ++ (cutS p.stem (some p.at_) none)
structure NmP.Ok (p : NmP) : Prop where
  len : p.stem.length ≤ 10
  pl : plainS p.stem
  pos : 0 ≤ p.at_
  ml : p.more.cps.toList.length = 1
  mp : plainS p.more
theorem sign_plain (i : Int) (h : 0 ≤ i ∧ i < 22) : plainS (signAt lettersB i) := by
  intro c hc
  rw [tl_sign, List.mem_singleton] at hc
  rw [hc]
  exact nth_mem (by show _ ≤ _ ∧ _ < _; rw [letB_len]; omega)
theorem NmP.tl {p : NmP} (o : p.Ok) (k : Int) : (p.nm k).cps.toList = p.stem.cps.toList.take p.at_.toNat ++ nth lettersB.cps.toList ((p.base + 3 * k) % 22) :: p.stem.cps.toList.drop p.at_.toNat := by
  unfold NmP.nm
  rw [tl_app, tl_app, tl_cutTo o.pos, tl_cutFrom o.pos, tl_sign, List.append_assoc]
  rfl
theorem NmP.len_nm {p : NmP} (o : p.Ok) (k : Int) : (p.nm k).cps.toList.length = p.stem.length + 1 := by
  rw [NmP.tl o, List.length_append, List.length_cons, List.length_take, List.length_drop, len_tl]
  omega
theorem NmP.plain {p : NmP} (o : p.Ok) (k : Int) : plainS (p.nm k) := by
  intro c hc
  rw [NmP.tl o] at hc
  rcases List.mem_append.mp hc with h | h
  · exact o.pl c (List.mem_of_mem_take h)
  · rcases List.mem_cons.mp h with h | h
    · rw [h]
      exact nth_mem (by show _ ≤ _ ∧ _ < _; rw [letB_len]; omega)
    · exact o.pl c (List.mem_of_mem_drop h)
theorem NmP.inj {p : NmP} (o : p.Ok) {i j : Int} (hi : 0 ≤ i) (hij : i < j) (hj : j < 12) : p.nm i ≠ p.nm j := by
  intro e
  have e2 := congrArg (fun s : Str => s.cps.toList) e
  simp only [NmP.tl o] at e2
  have e3 := List.append_cancel_left e2
  injection e3 with e4 _
  have := nth_inj letB_nodup (by rw [letB_len]; omega) (by rw [letB_len]; omega) e4
  omega
theorem names_form (n : Int) : ∃ p : NmP, p.Ok ∧ m_L_names n = (upto 12).flatMap fun k => [p.nm k, p.nm k ++ p.more] := by
  unfold m_L_names
  simp only [lt]
  generalize hn : (n % 1000000000000000 + 7) * 48271 % 2147483647 = m
  refine ⟨⟨Str.join ("" : Str) ((upto (m % 11)).map fun e_4 => signAt lettersB ((m / 11 + 5 * e_4 * e_4) % 22)), m / 276 % (m % 11 + 1), signAt lettersB (m / 13 % 22), m / 7⟩, ⟨?_, ?_, ?_, rfl, ?_⟩, ?_⟩
  · refine Nat.le_trans join_signs ?_
    rw [upto_len]
    omega
  · intro c hc
    rw [tl_join0] at hc
    obtain ⟨s, hs, hc⟩ := List.mem_flatMap.mp hc
    obtain ⟨i, _, rfl⟩ := List.mem_map.mp hs
    exact sign_plain _ (by omega) c hc
  · have h := Int.emod_nonneg m (b := 11) (by omega)
    exact Int.emod_nonneg _ (by omega)
  · exact sign_plain _ (by omega)
  · rw [foldl_app]
    rfl
theorem names_good (n : Int) : (m_L_names n).Nodup ∧ ∀ t ∈ m_L_names n, m_P_is_name (Va.str t) = true := by
  obtain ⟨p, o, e⟩ := names_form n
  rw [e]
  have lm : ∀ k, (p.nm k ++ p.more).cps.toList.length = p.stem.length + 2 := fun k => by
    rw [tl_app, List.length_append, NmP.len_nm o, o.ml]
  constructor
  · refine nodup_flat (fun k _ => ?_) (upto_pair fun i j h1 h2 h3 => ?_)
    · refine List.nodup_cons.mpr ⟨fun h => ?_, List.nodup_cons.mpr ⟨fun h => (nomatch h), List.nodup_nil⟩⟩
      rw [List.mem_singleton] at h
      have := congrArg (fun s : Str => s.cps.toList.length) h
      simp only [lm, NmP.len_nm o] at this
      omega
    · have hne := NmP.inj o h1 h2 h3
      have ln : ∀ a b, p.nm a ≠ p.nm b ++ p.more := fun a b h => by
        have := congrArg (fun s : Str => s.cps.toList.length) h
        simp only [lm, NmP.len_nm o] at this
        omega
      have lmm : p.nm i ++ p.more ≠ p.nm j ++ p.more := fun h => by
        have := congrArg (fun s : Str => s.cps.toList) h
        simp only [tl_app] at this
        exact hne (str_ext (List.append_cancel_right this))
      intro a ha b hb
      rcases List.mem_cons.mp ha with rfl | ha
      · rcases List.mem_cons.mp hb with rfl | hb
        · exact hne
        · rw [List.mem_singleton] at hb
          subst hb
          exact ln i j
      · rw [List.mem_singleton] at ha
        subst ha
        rcases List.mem_cons.mp hb with rfl | hb
        · exact fun h => ln j i h.symm
        · rw [List.mem_singleton] at hb
          subst hb
          exact lmm
  · intro t ht
    obtain ⟨k, _, ht⟩ := List.mem_flatMap.mp ht
    rcases List.mem_cons.mp ht with rfl | ht
    · refine good_name ?_ (NmP.plain o k)
      rw [len_tl, NmP.len_nm o]
      have := o.len
      omega
    · rw [List.mem_singleton] at ht
      subst ht
      refine good_name ?_ ?_
      · rw [len_tl, lm]
        have := o.len
        omega
      · intro c hc
        rw [tl_app] at hc
        rcases List.mem_append.mp hc with h | h
        · exact NmP.plain o k c h
        · exact o.mp c h
theorem hour_iff (i : Int) : m_P_is_hour (Va.int i) = (decide (0 ≤ i) && decide (i ≤ 1000000000000000000)) := by
  unfold m_P_is_hour m_P_is_whole
  have e : (Va.int i).asI = i := rfl
  have e1 : isA "int" (Va.int i) = true := rfl
  have e2 : isA "bool" (Va.int i) = false := rfl
  rw [e, e1, e2]
  rfl
structure NamesOk (l : List Str) : Prop where
  nd : l.Nodup
  ok : ∀ t ∈ l, m_P_is_name (Va.str t) = true
theorem good_persons {l : List Str} (h : NamesOk l) (h1 : 1 ≤ l.length ∧ l.length ≤ 24) : m_P_are_persons l = true := by
  have ha : l.all (fun x => m_P_is_name (Va.str x)) = true := List.all_eq_true.mpr h.ok
  unfold m_P_are_persons
  rw [loop_all (fun x => m_P_is_name (Va.str x)), ha, decide_eq_true (show (1 : Int) ≤ (l.length : Int) by omega), decide_eq_true (show (l.length : Int) ≤ 24 by omega), nub_nodup h.nd, decide_eq_true rfl]
  rfl
theorem tup_of3 (s : Sight) : m_P_is_tuple_of ((fun x : Sight => Va.tup [Va.str x.1, Va.int x.2.1, (fun xs => Va.tup (List.map Va.str xs)) x.2.2]) s) 3 = true := rfl
theorem tup_of4 (s : Talk) : m_P_is_tuple_of ((fun x : Talk => Va.tup [Va.int x.1, Va.str x.2.1, Va.str x.2.2.1, Va.str x.2.2.2]) s) 4 = true := rfl
theorem talk_true {p : List Str} {h : Int} {a b w : Str} (hh : m_P_is_hour (Va.int h) = true) (h2 : m_P_are_two a b p = true) (hw : w ∈ [("both" : Str), ("one" : Str)]) : m_P_is_talk (h, a, b, w) p = true := by
  unfold m_P_is_talk
  rw [tup_of4, hh, h2, decide_eq_true hw]
  rfl
theorem n_ks : ¬ ("knew" : Str) = ("silent" : Str) := by decide +kernel
theorem n_us : ¬ ("unheard" : Str) = ("silent" : Str) := by decide +kernel
theorem n_uk : ¬ ("unheard" : Str) = ("knew" : Str) := by decide +kernel
theorem say_unheard {p : List Str} {w : Str} {h : Option Int} (hw : w ∈ p) (hh : ∀ i, h = some i → m_P_is_hour (Va.int i) = true) : m_P_is_saying (.unheard w h) p = true := by
  unfold m_P_is_saying
  cases h with
  | none => simp [Sy.len, Sy.who, Sy.kd, Sy.ho, n_us, n_uk, hw]
  | some i => simp [Sy.len, Sy.who, Sy.kd, Sy.ho, n_us, n_uk, hw, vaO, hh i rfl]
theorem say_silent {p : List Str} {w : Str} {a b : Int} (hw : w ∈ p) (ha : m_P_is_hour (Va.int a) = true) (hb : m_P_is_hour (Va.int b) = true) (hab : a ≤ b) : m_P_is_saying (.silent w a b) p = true := by
  unfold m_P_is_saying
  simp [Sy.len, Sy.who, Sy.kd, Sy.h1, Sy.h2, hw, ha, hb, hab]
theorem say_who {s : Sy} {p : List Str} (h : m_P_is_saying s p = true) : s.who ∈ p := by
  unfold m_P_is_saying at h
  by_cases hw : s.who ∈ p
  · exact hw
  · rw [decide_eq_false hw] at h
    simp at h
def m_P_Book (a_persons : (List Str)) (a_sights : (List (Str × Int × (List Str)))) (a_talks : (List (Int × Str × Str × Str))) (a_sayings : (List Sy)) : BookV :=
  ⟨a_persons, a_sights, a_talks, a_sayings⟩
theorem nodup_of_nub : ∀ {xs : List Str}, (nubS xs).length = xs.length → xs.Nodup := by
  have go : ∀ (n : Nat) (ys : List Str), ys.length = n → (nubS ys).length = ys.length → ys.Nodup := by
    intro n
    induction n with
    | zero =>
      intro ys h _
      rw [List.length_eq_zero_iff.mp h]
      exact List.nodup_nil
    | succ n ih =>
      intro ys h e
      have hne : ys ≠ [] := fun z => by rw [z] at h; cases h
      have ec := List.dropLast_concat_getLast hne
      have hl : ys.dropLast.length = n := by rw [List.length_dropLast, h]; rfl
      have hb := nub_len ys.dropLast
      rw [← ec, nub_snoc] at e
      by_cases hm : ys.getLast hne ∈ nubS ys.dropLast
      · rw [if_pos hm, List.length_append] at e
        simp only [List.length_cons, List.length_nil] at e
        omega
      · rw [if_neg hm, List.length_append, List.length_append] at e
        have h1 := ih _ hl (by omega)
        rw [← ec]
        refine List.nodup_append.mpr ⟨h1, List.nodup_cons.mpr ⟨fun z => (nomatch z), List.nodup_nil⟩, fun a ha b hb2 z => ?_⟩
        rw [List.mem_singleton] at hb2
        rw [z, hb2] at ha
        exact hm (mem_nub.mpr ha)
  exact fun {xs} h => go _ xs rfl h
theorem lp_all {α : Type} {xs : List α} {c q : Bool} {f : α → Bool} (h : (if c = true then false else lp (if xs.all f = true then Ret.nx () else Ret.rt false) fun _ : Unit => q) = true) : c = false ∧ (∀ x ∈ xs, f x = true) ∧ q = true := by
  cases c with
  | true => cases h
  | false =>
    rw [if_neg Bool.false_ne_true] at h
    by_cases ha : xs.all f = true
    · rw [if_pos ha] at h
      exact ⟨rfl, List.all_eq_true.mp ha, h⟩
    · rw [if_neg ha] at h
      cases h
structure BkOk (b : BookV) : Prop where
  who : ∀ s ∈ b.claims, s.who ∈ b.crew
  see : ∀ x ∈ b.views, x.1 ∈ b.crew
  tk : ∀ x ∈ b.meetings, x.2.1 ∈ b.crew ∧ x.2.2.1 ∈ b.crew
  lc : b.crew.length ≤ 24
  lv : b.views.length ≤ 24
  lm : b.meetings.length ≤ 120
  ly : b.claims.length ≤ 60
  nd : b.crew.Nodup
theorem talk_two {x : Talk} {p : List Str} (h : m_P_is_talk x p = true) : x.2.1 ∈ p ∧ x.2.2.1 ∈ p := by
  unfold m_P_is_talk at h
  rw [tup_of4] at h
  unfold m_P_are_two at h
  simp only [Bool.not_true, Bool.false_eq_true, if_false, Bool.and_eq_true, decide_eq_true_eq] at h
  exact ⟨h.2.1.1, h.2.1.2.1⟩
theorem sight_who {x : Sight} {p : List Str} (h : m_P_is_sight x p = true) : x.1 ∈ p := by
  unfold m_P_is_sight at h
  rw [tup_of3] at h
  simp only [Bool.not_true, Bool.false_eq_true, if_false, Bool.and_eq_true, decide_eq_true_eq] at h
  exact h.1
theorem bk_of {p : List Str} {s : List Sight} {t : List Talk} {y : List Sy} (h : goodBook p s t y) : BkOk (m_P_Book p s t y) := by
  obtain ⟨h1, h2, h3, h4⟩ := h
  unfold m_P_are_persons at h1
  rw [loop_all (fun x => m_P_is_name (Va.str x))] at h1
  obtain ⟨a1, _, a3⟩ := lp_all h1
  unfold m_P_are_all_at_is_sight at h2
  rw [loop_all (fun x => m_P_is_sight x p)] at h2
  obtain ⟨b1, b2, _⟩ := lp_all h2
  unfold m_P_are_all_at_is_talk at h3
  rw [loop_all (fun x => m_P_is_talk x p)] at h3
  obtain ⟨c1, c2, _⟩ := lp_all h3
  unfold m_P_are_all_at_is_saying at h4
  rw [loop_all (fun x => m_P_is_saying x p)] at h4
  obtain ⟨d1, d2, _⟩ := lp_all h4
  simp only [Bool.not_true, Bool.false_or, Bool.not_eq_false', Bool.and_eq_true, decide_eq_true_eq, decide_eq_false_iff_not] at a1 a3 b1 c1 d1
  exact ⟨fun x hx => say_who (d2 x hx), fun x hx => sight_who (b2 x hx), fun x hx => talk_two (c2 x hx), (by show p.length ≤ 24; omega), (by show s.length ≤ 24; omega), (by show t.length ≤ 120; omega), (by show y.length ≤ 60; omega), (show p.Nodup from nodup_of_nub (by omega))⟩
def m_P_read_book (a_text : Str) : (Except Int BookV) :=
  (if (!true) then
    (Except.error (0 : Int))
  else
  lt (0 : Int) fun last_6 =>
  lp (loopL (R := (Except Int BookV)) (fun (s_7 : Int × (List Str) × (List (Str × Int × (List Str))) × (List (Int × Str × Str × Str)) × (List Sy)) (x_8 : (Int × Str)) =>
    lt (Txt.split x_8.2 (" " : Str)) fun words_15 =>
    lt (K_KINDS.length : Int) fun kind_16 =>
    lt (if (decide ((nth words_15 (0 : Int)) ∈ K_KINDS)) then
      lt (idxS K_KINDS (nth words_15 (0 : Int))) fun kind_19 =>
      kind_19
    else
      kind_16) fun (s_18 : Int) =>
    (if (decide (s_18 = (0 : Int))) then
      lt (m_P_told_by_at_0 words_15 (0 : Int) s_7.2.1) fun one_21 =>
      (if ((one_21.isNone) || ((decide ((0 : Int) < s_7.1)) || (decide ((s_7.2.1.length : Int) = (nth K_MOST (0 : Int)))))) then
        (Ret.rt (Except.error x_8.1))
      else
      lt (s_7.2.1 ++ [(one_21.getD default)]) fun found_26 =>
      lt (0 : Int) fun last_27 =>
      (Ret.nx (last_27, found_26, s_7.2.2.1, s_7.2.2.2.1, s_7.2.2.2.2)))
    else
    (if (decide (s_18 = (1 : Int))) then
      lt (m_P_told_by_at_1 words_15 (1 : Int) s_7.2.1) fun one_29 =>
      (if ((one_29.isNone) || ((decide ((1 : Int) < s_7.1)) || (decide ((s_7.2.2.1.length : Int) = (nth K_MOST (1 : Int)))))) then
        (Ret.rt (Except.error x_8.1))
      else
      lt (s_7.2.2.1 ++ [(one_29.getD default)]) fun found_34 =>
      lt (1 : Int) fun last_35 =>
      (Ret.nx (last_35, s_7.2.1, found_34, s_7.2.2.2.1, s_7.2.2.2.2)))
    else
    (if (decide (s_18 = (2 : Int))) then
      lt (m_P_told_by_at_2 words_15 (2 : Int) s_7.2.1) fun one_37 =>
      (if ((one_37.isNone) || ((decide ((2 : Int) < s_7.1)) || (decide ((s_7.2.2.2.1.length : Int) = (nth K_MOST (2 : Int)))))) then
        (Ret.rt (Except.error x_8.1))
      else
      lt (s_7.2.2.2.1 ++ [(one_37.getD default)]) fun found_42 =>
      lt (2 : Int) fun last_43 =>
      (Ret.nx (last_43, s_7.2.1, s_7.2.2.1, found_42, s_7.2.2.2.2)))
    else
    lt (m_P_told_by_at_3 words_15 (3 : Int) s_7.2.1) fun one_44 =>
    (if ((one_44.isNone) || ((decide ((3 : Int) < s_7.1)) || (decide ((s_7.2.2.2.2.length : Int) = (nth K_MOST (3 : Int)))))) then
      (Ret.rt (Except.error x_8.1))
    else
    lt (s_7.2.2.2.2 ++ [(one_44.getD default)]) fun found_49 =>
    lt (3 : Int) fun last_50 =>
    (Ret.nx (last_50, s_7.2.1, s_7.2.2.1, s_7.2.2.2.1, found_49))))))) (enumL (Txt.split a_text ("\n" : Str))) (last_6, ([] : List Str), ([] : List (Str × Int × (List Str))), ([] : List (Int × Str × Str × Str)), ([] : List Sy))) fun (s_7 : Int × (List Str) × (List (Str × Int × (List Str))) × (List (Int × Str × Str × Str)) × (List Sy)) =>
  (Except.ok (m_P_Book s_7.2.1 s_7.2.2.1 s_7.2.2.2.1 s_7.2.2.2.2)))
inductive It where
  | per (p : Str) | saw (x : Sight) | tk (t : Talk) | sy (s : Sy)
def It.kd : It → Int
  | .per _ => 0
  | .saw _ => 1
  | .tk _ => 2
  | .sy _ => 3
abbrev RdS := Int × (List Str) × (List (Str × Int × (List Str))) × (List (Int × Str × Str × Str)) × (List Sy)
def It.add (s : RdS) : It → RdS
  | .per n => (0, s.2.1 ++ [n], s.2.2.1, s.2.2.2.1, s.2.2.2.2)
  | .saw x => (1, s.2.1, s.2.2.1 ++ [x], s.2.2.2.1, s.2.2.2.2)
  | .tk t => (2, s.2.1, s.2.2.1, s.2.2.2.1 ++ [t], s.2.2.2.2)
  | .sy y => (3, s.2.1, s.2.2.1, s.2.2.2.1, s.2.2.2.2 ++ [y])
def rdStep : RdS → (Int × Str) → Ret RdS (Except Int BookV) := (fun (s_7 : Int × (List Str) × (List (Str × Int × (List Str))) × (List (Int × Str × Str × Str)) × (List Sy)) (x_8 : (Int × Str)) =>
    lt (Txt.split x_8.2 (" " : Str)) fun words_15 =>
    lt (K_KINDS.length : Int) fun kind_16 =>
    lt (if (decide ((nth words_15 (0 : Int)) ∈ K_KINDS)) then
      lt (idxS K_KINDS (nth words_15 (0 : Int))) fun kind_19 =>
      kind_19
    else
      kind_16) fun (s_18 : Int) =>
    (if (decide (s_18 = (0 : Int))) then
      lt (m_P_told_by_at_0 words_15 (0 : Int) s_7.2.1) fun one_21 =>
      (if ((one_21.isNone) || ((decide ((0 : Int) < s_7.1)) || (decide ((s_7.2.1.length : Int) = (nth K_MOST (0 : Int)))))) then
        (Ret.rt (Except.error x_8.1))
      else
      lt (s_7.2.1 ++ [(one_21.getD default)]) fun found_26 =>
      lt (0 : Int) fun last_27 =>
      (Ret.nx (last_27, found_26, s_7.2.2.1, s_7.2.2.2.1, s_7.2.2.2.2)))
    else
    (if (decide (s_18 = (1 : Int))) then
      lt (m_P_told_by_at_1 words_15 (1 : Int) s_7.2.1) fun one_29 =>
      (if ((one_29.isNone) || ((decide ((1 : Int) < s_7.1)) || (decide ((s_7.2.2.1.length : Int) = (nth K_MOST (1 : Int)))))) then
        (Ret.rt (Except.error x_8.1))
      else
      lt (s_7.2.2.1 ++ [(one_29.getD default)]) fun found_34 =>
      lt (1 : Int) fun last_35 =>
      (Ret.nx (last_35, s_7.2.1, found_34, s_7.2.2.2.1, s_7.2.2.2.2)))
    else
    (if (decide (s_18 = (2 : Int))) then
      lt (m_P_told_by_at_2 words_15 (2 : Int) s_7.2.1) fun one_37 =>
      (if ((one_37.isNone) || ((decide ((2 : Int) < s_7.1)) || (decide ((s_7.2.2.2.1.length : Int) = (nth K_MOST (2 : Int)))))) then
        (Ret.rt (Except.error x_8.1))
      else
      lt (s_7.2.2.2.1 ++ [(one_37.getD default)]) fun found_42 =>
      lt (2 : Int) fun last_43 =>
      (Ret.nx (last_43, s_7.2.1, s_7.2.2.1, found_42, s_7.2.2.2.2)))
    else
    lt (m_P_told_by_at_3 words_15 (3 : Int) s_7.2.1) fun one_44 =>
    (if ((one_44.isNone) || ((decide ((3 : Int) < s_7.1)) || (decide ((s_7.2.2.2.2.length : Int) = (nth K_MOST (3 : Int)))))) then
      (Ret.rt (Except.error x_8.1))
    else
    lt (s_7.2.2.2.2 ++ [(one_44.getD default)]) fun found_49 =>
    lt (3 : Int) fun last_50 =>
    (Ret.nx (last_50, s_7.2.1, s_7.2.2.1, s_7.2.2.2.1, found_49)))))))
def kindOf (w : List Str) : Int := if decide (nth w 0 ∈ K_KINDS) = true then idxS K_KINDS (nth w 0) else 3
def toldI (w : List Str) (k : Int) (p : List Str) : Option It :=
  if k = 0 then (m_P_told_by_at_0 w 0 p).map It.per else if k = 1 then (m_P_told_by_at_1 w 1 p).map It.saw else if k = 2 then (m_P_told_by_at_2 w 2 p).map It.tk else (m_P_told_by_at_3 w 3 p).map It.sy
def cntOf (s : RdS) (k : Int) : Int := if k = 0 then (s.2.1.length : Int) else if k = 1 then (s.2.2.1.length : Int) else if k = 2 then (s.2.2.2.1.length : Int) else (s.2.2.2.2.length : Int)
def limOf (k : Int) : Int := if k = 0 then 24 else if k = 1 then 24 else if k = 2 then 120 else 60
def rdNext (s : RdS) (t : Str) : Option RdS := match toldI (Txt.split t (" " : Str)) (kindOf (Txt.split t (" " : Str))) s.2.1 with
  | none => none
  | some i => if kindOf (Txt.split t (" " : Str)) < s.1 ∨ cntOf s (kindOf (Txt.split t (" " : Str))) = limOf (kindOf (Txt.split t (" " : Str))) then none else some (It.add s i)
theorem kind4 (w : List Str) : kindOf w = 0 ∨ kindOf w = 1 ∨ kindOf w = 2 ∨ kindOf w = 3 := by
  unfold kindOf
  split
  · next h =>
    have hm := of_decide_eq_true h
    have hi := List.idxOf_lt_length_of_mem hm
    have e : K_KINDS.length = 3 := rfl
    unfold idxS
    omega
  · exact .inr (.inr (.inr rfl))
theorem kind_rng {k k0 : Int} {w : List Str} (e0 : k0 = (K_KINDS.length : Int)) (e : k = if decide (nth w 0 ∈ K_KINDS) = true then lt (idxS K_KINDS (nth w 0)) (fun y => y) else k0) : 0 ≤ k ∧ k ≤ 3 := by
  have h : k = kindOf w := by rw [e, e0]; rfl
  have := kind4 w
  omega
def rdK (s : RdS) (x : Int × Str) (k : Int) : Ret RdS (Except Int BookV) :=
  (if (decide (k = (0 : Int))) then
    lt (m_P_told_by_at_0 (Txt.split x.2 (" " : Str)) (0 : Int) s.2.1) fun one =>
    (if ((one.isNone) || ((decide ((0 : Int) < s.1)) || (decide ((s.2.1.length : Int) = (nth K_MOST (0 : Int)))))) then (Ret.rt (Except.error x.1))
    else lt (s.2.1 ++ [(one.getD default)]) fun found => lt (0 : Int) fun last => (Ret.nx (last, found, s.2.2.1, s.2.2.2.1, s.2.2.2.2)))
  else (if (decide (k = (1 : Int))) then
    lt (m_P_told_by_at_1 (Txt.split x.2 (" " : Str)) (1 : Int) s.2.1) fun one =>
    (if ((one.isNone) || ((decide ((1 : Int) < s.1)) || (decide ((s.2.2.1.length : Int) = (nth K_MOST (1 : Int)))))) then (Ret.rt (Except.error x.1))
    else lt (s.2.2.1 ++ [(one.getD default)]) fun found => lt (1 : Int) fun last => (Ret.nx (last, s.2.1, found, s.2.2.2.1, s.2.2.2.2)))
  else (if (decide (k = (2 : Int))) then
    lt (m_P_told_by_at_2 (Txt.split x.2 (" " : Str)) (2 : Int) s.2.1) fun one =>
    (if ((one.isNone) || ((decide ((2 : Int) < s.1)) || (decide ((s.2.2.2.1.length : Int) = (nth K_MOST (2 : Int)))))) then (Ret.rt (Except.error x.1))
    else lt (s.2.2.2.1 ++ [(one.getD default)]) fun found => lt (2 : Int) fun last => (Ret.nx (last, s.2.1, s.2.2.1, found, s.2.2.2.2)))
  else lt (m_P_told_by_at_3 (Txt.split x.2 (" " : Str)) (3 : Int) s.2.1) fun one =>
    (if ((one.isNone) || ((decide ((3 : Int) < s.1)) || (decide ((s.2.2.2.2.length : Int) = (nth K_MOST (3 : Int)))))) then (Ret.rt (Except.error x.1))
    else lt (s.2.2.2.2 ++ [(one.getD default)]) fun found => lt (3 : Int) fun last => (Ret.nx (last, s.2.1, s.2.2.1, s.2.2.2.1, found))))))
theorem rd_stepK (s : RdS) (x : Int × Str) : rdStep s x = rdK s x (kindOf (Txt.split x.2 (" " : Str))) := rfl
def rdNextK (s : RdS) (t : Str) (k : Int) : Option RdS := match toldI (Txt.split t (" " : Str)) k s.2.1 with
  | none => none
  | some i => if k < s.1 ∨ cntOf s k = limOf k then none else some (It.add s i)
theorem rd_K (s : RdS) (x : Int × Str) {k : Int} (h : k = 0 ∨ k = 1 ∨ k = 2 ∨ k = 3) : rdK s x k = match rdNextK s x.2 k with
    | none => .rt (.error x.1)
    | some s' => .nx s' := by
  unfold rdNextK
  rcases h with rfl | rfl | rfl | rfl
  · have et : toldI (Txt.split x.2 (" " : Str)) 0 s.2.1 = (m_P_told_by_at_0 (Txt.split x.2 (" " : Str)) 0 s.2.1).map It.per := rfl
    have ek : rdK s x 0 = lt (m_P_told_by_at_0 (Txt.split x.2 (" " : Str)) (0 : Int) s.2.1) fun one =>
          (if ((one.isNone) || ((decide ((0 : Int) < s.1)) || (decide ((s.2.1.length : Int) = (nth K_MOST (0 : Int)))))) then (Ret.rt (Except.error x.1))
          else lt (s.2.1 ++ [(one.getD default)]) fun found => lt (0 : Int) fun last => (Ret.nx (last, found, s.2.2.1, s.2.2.2.1, s.2.2.2.2))) := rfl
    rw [et, ek]
    cases ho : m_P_told_by_at_0 (Txt.split x.2 (" " : Str)) 0 s.2.1 with
    | none => rfl
    | some a =>
      have em : nth K_MOST (0 : Int) = 24 := rfl
      have ec : cntOf s 0 = (s.2.1.length : Int) := rfl
      have el : limOf 0 = 24 := rfl
      simp only [lt, Option.isNone_some, Bool.false_or, Option.map_some, Option.getD_some, em, ec, el, Bool.or_eq_true, decide_eq_true_eq]
      split <;> rfl
  · have et : toldI (Txt.split x.2 (" " : Str)) 1 s.2.1 = (m_P_told_by_at_1 (Txt.split x.2 (" " : Str)) 1 s.2.1).map It.saw := rfl
    have ek : rdK s x 1 = lt (m_P_told_by_at_1 (Txt.split x.2 (" " : Str)) (1 : Int) s.2.1) fun one =>
          (if ((one.isNone) || ((decide ((1 : Int) < s.1)) || (decide ((s.2.2.1.length : Int) = (nth K_MOST (1 : Int)))))) then (Ret.rt (Except.error x.1))
          else lt (s.2.2.1 ++ [(one.getD default)]) fun found => lt (1 : Int) fun last => (Ret.nx (last, s.2.1, found, s.2.2.2.1, s.2.2.2.2))) := rfl
    rw [et, ek]
    cases ho : m_P_told_by_at_1 (Txt.split x.2 (" " : Str)) 1 s.2.1 with
    | none => rfl
    | some a =>
      have em : nth K_MOST (1 : Int) = 24 := rfl
      have ec : cntOf s 1 = (s.2.2.1.length : Int) := rfl
      have el : limOf 1 = 24 := rfl
      simp only [lt, Option.isNone_some, Bool.false_or, Option.map_some, Option.getD_some, em, ec, el, Bool.or_eq_true, decide_eq_true_eq]
      split <;> rfl
  · have et : toldI (Txt.split x.2 (" " : Str)) 2 s.2.1 = (m_P_told_by_at_2 (Txt.split x.2 (" " : Str)) 2 s.2.1).map It.tk := rfl
    have ek : rdK s x 2 = lt (m_P_told_by_at_2 (Txt.split x.2 (" " : Str)) (2 : Int) s.2.1) fun one =>
          (if ((one.isNone) || ((decide ((2 : Int) < s.1)) || (decide ((s.2.2.2.1.length : Int) = (nth K_MOST (2 : Int)))))) then (Ret.rt (Except.error x.1))
          else lt (s.2.2.2.1 ++ [(one.getD default)]) fun found => lt (2 : Int) fun last => (Ret.nx (last, s.2.1, s.2.2.1, found, s.2.2.2.2))) := rfl
    rw [et, ek]
    cases ho : m_P_told_by_at_2 (Txt.split x.2 (" " : Str)) 2 s.2.1 with
    | none => rfl
    | some a =>
      have em : nth K_MOST (2 : Int) = 120 := rfl
      have ec : cntOf s 2 = (s.2.2.2.1.length : Int) := rfl
      have el : limOf 2 = 120 := rfl
      simp only [lt, Option.isNone_some, Bool.false_or, Option.map_some, Option.getD_some, em, ec, el, Bool.or_eq_true, decide_eq_true_eq]
      split <;> rfl
  · have et : toldI (Txt.split x.2 (" " : Str)) 3 s.2.1 = (m_P_told_by_at_3 (Txt.split x.2 (" " : Str)) 3 s.2.1).map It.sy := rfl
    have ek : rdK s x 3 = lt (m_P_told_by_at_3 (Txt.split x.2 (" " : Str)) (3 : Int) s.2.1) fun one =>
          (if ((one.isNone) || ((decide ((3 : Int) < s.1)) || (decide ((s.2.2.2.2.length : Int) = (nth K_MOST (3 : Int)))))) then (Ret.rt (Except.error x.1))
          else lt (s.2.2.2.2 ++ [(one.getD default)]) fun found => lt (3 : Int) fun last => (Ret.nx (last, s.2.1, s.2.2.1, s.2.2.2.1, found))) := rfl
    rw [et, ek]
    cases ho : m_P_told_by_at_3 (Txt.split x.2 (" " : Str)) 3 s.2.1 with
    | none => rfl
    | some a =>
      have em : nth K_MOST (3 : Int) = 60 := rfl
      have ec : cntOf s 3 = (s.2.2.2.2.length : Int) := rfl
      have el : limOf 3 = 60 := rfl
      simp only [lt, Option.isNone_some, Bool.false_or, Option.map_some, Option.getD_some, em, ec, el, Bool.or_eq_true, decide_eq_true_eq]
      split <;> rfl
theorem rd_step (s : RdS) (x : Int × Str) : rdStep s x = match rdNext s x.2 with
    | none => .rt (.error x.1)
    | some s' => .nx s' := by
  rw [rd_stepK, rd_K s x (kind4 _)]
  rfl
theorem rd_nx {s s' : RdS} {x : Int × Str} (h : rdStep s x = .nx s') : rdNext s x.2 = some s' := by
  rw [rd_step] at h
  split at h
  · cases h
  · next z e => cases h; exact e
abbrev rd0 : RdS := (0, [], [], [], [])
theorem rd_inv {P : RdS → Prop} {s0 : RdS} (h0 : P s0) (hs : ∀ s t s', P s → rdNext s t = some s' → P s') : ∀ {xs : List (Int × Str)} {s : RdS}, loopL rdStep xs s0 = .nx s → P s := by
  intro xs
  induction xs generalizing s0 with
  | nil => intro s h; cases h; exact h0
  | cons x xs ih =>
    intro s h
    have h2 := h
    rw [loopL] at h2
    cases q : rdStep s0 x with
    | nx s' => rw [q] at h2; exact ih (hs _ _ _ h0 (rd_nx q)) h2
    | rt r => rw [q] at h2; cases h2
theorem rd_nextI {s s' : RdS} {t : Str} (h : rdNext s t = some s') : ∃ i, toldI (Txt.split t (" " : Str)) (kindOf (Txt.split t (" " : Str))) s.2.1 = some i ∧ ¬ kindOf (Txt.split t (" " : Str)) < s.1 ∧ cntOf s (kindOf (Txt.split t (" " : Str))) ≠ limOf (kindOf (Txt.split t (" " : Str))) ∧ s' = It.add s i := by
  unfold rdNext at h
  split at h
  · cases h
  · next i hi =>
    split at h
    · cases h
    · next hc =>
      cases h
      exact ⟨i, hi, fun z => hc (.inl z), fun z => hc (.inr z), rfl⟩
theorem toldI_kd {w : List Str} {k : Int} {p : List Str} {i : It} (hk : k = 0 ∨ k = 1 ∨ k = 2 ∨ k = 3) (h : toldI w k p = some i) : i.kd = k := by
  unfold toldI at h
  rcases hk with rfl | rfl | rfl | rfl
  · rw [if_pos rfl] at h
    obtain ⟨a, _, rfl⟩ := Option.map_eq_some_iff.mp h; rfl
  · rw [if_neg (by decide), if_pos rfl] at h
    obtain ⟨a, _, rfl⟩ := Option.map_eq_some_iff.mp h; rfl
  · rw [if_neg (by decide), if_neg (by decide), if_pos rfl] at h
    obtain ⟨a, _, rfl⟩ := Option.map_eq_some_iff.mp h; rfl
  · rw [if_neg (by decide), if_neg (by decide), if_neg (by decide)] at h
    obtain ⟨a, _, rfl⟩ := Option.map_eq_some_iff.mp h; rfl
def RdLe (n : Nat) (s : RdS) : Prop := s.2.1.length ≤ n ∧ s.2.2.1.length ≤ n ∧ s.2.2.2.1.length ≤ n ∧ s.2.2.2.2.length ≤ n
theorem add_le {n : Nat} {s : RdS} {i : It} (h : RdLe n s) : RdLe (n + 1) (It.add s i) := by
  obtain ⟨h1, h2, h3, h4⟩ := h
  cases i <;> (unfold It.add RdLe; simp only [List.length_append, List.length_cons, List.length_nil]; omega)
theorem rd_growN : ∀ {xs : List (Int × Str)} {s0 s : RdS} {n : Nat}, RdLe n s0 → loopL rdStep xs s0 = .nx s → RdLe (n + xs.length) s := by
  intro xs
  induction xs with
  | nil => intro s0 s n h0 h; cases h; exact h0
  | cons x xs ih =>
    intro s0 s n h0 h
    have h2 := h
    rw [loopL] at h2
    cases q : rdStep s0 x with
    | nx s' =>
      rw [q] at h2
      obtain ⟨i, _, _, _, rfl⟩ := rd_nextI (rd_nx q)
      have := ih (add_le (i := i) h0) h2
      rw [List.length_cons, show n + (xs.length + 1) = n + 1 + xs.length by omega]
      exact this
    | rt r => rw [q] at h2; cases h2
theorem rd_grow {l0 : Int} {xs : List (Int × Str)} {s : RdS} (e0 : l0 = 0) (h : loopL rdStep xs (l0, [], [], [], []) = .nx s) : RdLe xs.length s := by
  subst e0
  have := rd_growN (n := 0) (s0 := rd0) ⟨Nat.le_refl _, Nat.le_refl _, Nat.le_refl _, Nat.le_refl _⟩ h
  rw [Nat.zero_add] at this
  exact this
theorem spl_cnt {S : List Nat} : ∀ {l : List Nat} {k : Nat} {acc : List Nat}, 1 ≤ (TL.spl S k acc l).length ∧ (TL.spl S k acc l).length ≤ l.length + 1
  | [], k, acc => by rw [TL.spl_nil]; exact ⟨Nat.le_refl _, Nat.le_refl _⟩
  | c :: r, 0, acc => by
    by_cases hp : TL.pre S (c :: r) = true
    · rw [TL.spl_hit hp]
      have := spl_cnt (S := S) (l := r) (k := S.length - 1) (acc := [])
      simp only [List.length_cons]; omega
    · have e : TL.spl S 0 acc (c :: r) = TL.spl S 0 (acc ++ [c]) r := if_neg hp
      rw [e]
      have := spl_cnt (S := S) (l := r) (k := 0) (acc := acc ++ [c])
      simp only [List.length_cons]; omega
  | c :: r, k + 1, acc => by
    have e : TL.spl S (k + 1) acc (c :: r) = TL.spl S k acc r := rfl
    rw [e]
    have := spl_cnt (S := S) (l := r) (k := k) (acc := acc)
    simp only [List.length_cons]; omega
theorem split_len {x y : Str} (hy : TL.tl y ≠ []) (hk : y.cps.all (· < 256) = true) : 1 ≤ (Txt.split x y).length ∧ (Txt.split x y).length ≤ x.length + 1 := by
  have e := congrArg List.length (TL.split_spl x y hy (TL.kind_ok hk))
  rw [List.length_map] at e
  rw [e, TL.len_tl]
  exact spl_cnt
theorem split_pos {w : List Str} {t : Str} (e : w = Txt.split t (" " : Str)) : 1 ≤ w.length := by rw [e]; exact (split_len (by decide +kernel) (by decide +kernel)).1
theorem split_cnt {t : Str} (h : t.length ≤ 1000000) : (Txt.split t ("\n" : Str)).length ≤ 1000001 := Nat.le_trans (split_len (by decide +kernel) (by decide +kernel)).2 (by omega)
theorem rd_xlen {t : Str} (h : t.length ≤ 1000000) {x : Int × Str} (hx : x ∈ enumL (Txt.split t ("\n" : Str))) : x.2.length ≤ 1000000 := Nat.le_trans (split_parts (x := t) (by decide +kernel) (by decide +kernel) (mem_enum hx).2.2).2 h
structure RdInv (s : RdS) : Prop where
  nm : NamesOk s.2.1
  n24 : s.2.1.length ≤ 24
  sv : ∀ x ∈ s.2.2.1, m_P_is_sight x s.2.1 = true
  s24 : s.2.2.1.length ≤ 24
  tk : ∀ x ∈ s.2.2.2.1, m_P_is_talk x s.2.1 = true
  t120 : s.2.2.2.1.length ≤ 120
  sy : ∀ x ∈ s.2.2.2.2, m_P_is_saying x s.2.1 = true
  y60 : s.2.2.2.2.length ≤ 60
  l0 : 0 ≤ s.1
  z : s.1 = 0 → s.2.2.1 = [] ∧ s.2.2.2.1 = [] ∧ s.2.2.2.2 = []
theorem t0_is {w : List Str} {p : List Str} {a : Str} (h : m_P_told_by_at_0 w 0 p = some a) : m_P_is_name (Va.str a) = true ∧ a ∉ p := by
  unfold m_P_told_by_at_0 at h
  split at h
  · next hc =>
    cases h
    simp only [Bool.and_eq_true, Bool.not_eq_true', decide_eq_false_iff_not] at hc
    exact ⟨hc.2.1, hc.2.2⟩
  · cases h
theorem t1_is {w : List Str} {p : List Str} {a : Sight} (h : m_P_told_by_at_1 w 1 p = some a) : m_P_is_sight a p = true := by
  unfold m_P_told_by_at_1 at h
  simp only [lt] at h
  split at h
  · cases h
  · split at h
    · next hc => cases h; exact hc
    · cases h
theorem lo_if {α : Type} {o : Option α} {b : Bool} {c : α → Bool} {a : α} (h : lo o (if b = true then (none : Option α) else none) (fun y => if c y = true then some y else none) = some a) : o = some a ∧ c a = true := by
  cases o with
  | none =>
    have h2 : (if b = true then (none : Option α) else none) = some a := h
    split at h2 <;> cases h2
  | some y =>
    have h2 : (if c y = true then some y else none) = some a := h
    split at h2
    · next hc => cases h2; exact ⟨rfl, hc⟩
    · cases h2
theorem t2_is {w : List Str} {p : List Str} {a : Talk} (h : m_P_told_by_at_2 w 2 p = some a) : m_P_is_talk a p = true := (lo_if h).2
theorem t3_is {w : List Str} {p : List Str} {a : Sy} (h : m_P_told_by_at_3 w 3 p = some a) : m_P_is_saying a p = true := (lo_if h).2
theorem told_kd {w : List Str} {p : List Str} {i : It} (h : toldI w (kindOf w) p = some i) : i.kd = kindOf w := toldI_kd (kind4 w) h
theorem all_add {α : Type} {P : α → Prop} {l : List α} {a : α} (h : ∀ x ∈ l, P x) (ha : P a) : ∀ x ∈ l ++ [a], P x := fun x hx => by
  rcases List.mem_append.mp hx with hx | hx
  · exact h x hx
  · rw [List.mem_singleton.mp hx]; exact ha
theorem told_is {w : List Str} {k : Int} {p : List Str} {i : It} (hk : k = 0 ∨ k = 1 ∨ k = 2 ∨ k = 3) (h : toldI w k p = some i) : match i with
    | .per n => m_P_is_name (Va.str n) = true ∧ n ∉ p
    | .saw x => m_P_is_sight x p = true
    | .tk t => m_P_is_talk t p = true
    | .sy y => m_P_is_saying y p = true := by
  unfold toldI at h
  rcases hk with rfl | rfl | rfl | rfl
  · rw [if_pos rfl] at h
    obtain ⟨a, ha, rfl⟩ := Option.map_eq_some_iff.mp h; exact t0_is ha
  · rw [if_neg (by decide), if_pos rfl] at h
    obtain ⟨a, ha, rfl⟩ := Option.map_eq_some_iff.mp h; exact t1_is ha
  · rw [if_neg (by decide), if_neg (by decide), if_pos rfl] at h
    obtain ⟨a, ha, rfl⟩ := Option.map_eq_some_iff.mp h; exact t2_is ha
  · rw [if_neg (by decide), if_neg (by decide), if_neg (by decide)] at h
    obtain ⟨a, ha, rfl⟩ := Option.map_eq_some_iff.mp h; exact t3_is ha
theorem rd_keep (s : RdS) (t : Str) (s' : RdS) (h : RdInv s) (q : rdNext s t = some s') : RdInv s' := by
  obtain ⟨i, hi, hl, hc, rfl⟩ := rd_nextI q
  have hk := told_kd hi
  have his := told_is (kind4 _) hi
  rw [← hk] at hl hc
  obtain ⟨nm, n24, sv, s24, tk, t120, sy, y60, l0, z⟩ := h
  cases i with
  | per n =>
    have hs0 : s.1 = 0 := by have : ¬ (0 : Int) < s.1 := hl; omega
    obtain ⟨z1, z2, z3⟩ := z hs0
    have hcl : (s.2.1.length : Int) ≠ 24 := hc
    refine ⟨⟨?_, ?_⟩, ?_, ?_, ?_, ?_, ?_, ?_, ?_, Int.le_refl _, fun _ => ⟨z1, z2, z3⟩⟩
    · show (s.2.1 ++ [n]).Nodup
      rw [List.nodup_append]
      exact ⟨nm.nd, List.nodup_cons.mpr ⟨List.not_mem_nil, List.nodup_nil⟩, fun a ha b hb => by rw [List.mem_singleton.mp hb]; rintro rfl; exact his.2 ha⟩
    · exact all_add nm.ok his.1
    · show (s.2.1 ++ [n]).length ≤ 24
      rw [List.length_append, List.length_singleton]; omega
    · show ∀ x ∈ s.2.2.1, _
      rw [z1]; exact fun _ hx => nomatch hx
    · exact s24
    · show ∀ x ∈ s.2.2.2.1, _
      rw [z2]; exact fun _ hx => nomatch hx
    · exact t120
    · show ∀ x ∈ s.2.2.2.2, _
      rw [z3]; exact fun _ hx => nomatch hx
    · exact y60
  | saw x =>
    have hcl : (s.2.2.1.length : Int) ≠ 24 := hc
    refine ⟨nm, n24, all_add sv his, ?_, tk, t120, sy, y60, by show (0 : Int) ≤ 1; decide, fun e => absurd e (by show ¬ (1 : Int) = 0; decide)⟩
    show (s.2.2.1 ++ [x]).length ≤ 24
    rw [List.length_append, List.length_singleton]; omega
  | tk t2 =>
    have hcl : (s.2.2.2.1.length : Int) ≠ 120 := hc
    refine ⟨nm, n24, sv, s24, all_add tk his, ?_, sy, y60, by show (0 : Int) ≤ 2; decide, fun e => absurd e (by show ¬ (2 : Int) = 0; decide)⟩
    show (s.2.2.2.1 ++ [t2]).length ≤ 120
    rw [List.length_append, List.length_singleton]; omega
  | sy y =>
    have hcl : (s.2.2.2.2.length : Int) ≠ 60 := hc
    refine ⟨nm, n24, sv, s24, tk, t120, all_add sy his, ?_, by show (0 : Int) ≤ 3; decide, fun e => absurd e (by show ¬ (3 : Int) = 0; decide)⟩
    show (s.2.2.2.2 ++ [y]).length ≤ 60
    rw [List.length_append, List.length_singleton]; omega
theorem inv0 : RdInv rd0 := ⟨⟨List.nodup_nil, (fun _ h => nomatch h)⟩, Nat.zero_le _, (fun _ h => nomatch h), Nat.zero_le _, (fun _ h => nomatch h), Nat.zero_le _, (fun _ h => nomatch h), Nat.zero_le _, Int.le_refl _, fun _ => ⟨rfl, rfl, rfl⟩⟩
theorem sight_in {x : Sight} {p : List Str} (h : m_P_is_sight x p = true) : x.1 ∈ p := by
  unfold m_P_is_sight at h
  rw [tup_of3] at h
  simp only [Bool.not_true, Bool.false_eq_true, if_false, Bool.and_eq_true, decide_eq_true_eq] at h
  exact h.1
theorem talk_in1 {x : Talk} {p : List Str} (h : m_P_is_talk x p = true) : x.2.1 ∈ p := by
  unfold m_P_is_talk at h
  rw [tup_of4] at h
  simp only [Bool.not_true, Bool.false_eq_true, if_false, Bool.and_eq_true, decide_eq_true_eq] at h
  obtain ⟨_, h2, _⟩ := h
  unfold m_P_are_two at h2
  simp only [Bool.and_eq_true, decide_eq_true_eq] at h2
  exact h2.1
theorem say_in1 {x : Sy} {p : List Str} (h : m_P_is_saying x p = true) : x.who ∈ p := by
  unfold m_P_is_saying at h
  split at h
  · cases h
  · next hc =>
    simp only [Bool.not_eq_true, Bool.or_eq_false_iff, Bool.not_eq_false', decide_eq_true_eq] at hc
    exact hc.2.2
theorem mem_pos {α : Type} {a : α} {l : List α} (h : a ∈ l) : 1 ≤ l.length := List.length_pos_of_mem h
theorem rd_pos {s s' : RdS} {t : Str} (q : rdNext s t = some s') : 1 ≤ s'.2.1.length := by
  obtain ⟨i, hi, _, _, rfl⟩ := rd_nextI q
  have his := told_is (kind4 _) hi
  cases i with
  | per n => show 1 ≤ (s.2.1 ++ [n]).length; rw [List.length_append, List.length_singleton]; omega
  | saw x => exact mem_pos (sight_in his)
  | tk t => exact mem_pos (talk_in1 his)
  | sy y => exact mem_pos (say_in1 his)
theorem rd_pos2 : ∀ {xs : List (Int × Str)} {s0 s : RdS}, 1 ≤ xs.length → loopL rdStep xs s0 = .nx s → 1 ≤ s.2.1.length := by
  intro xs
  cases xs with
  | nil => intro s0 s h; exact absurd h (by decide)
  | cons x xs =>
    intro s0 s _ h
    have h2 := h
    rw [loopL] at h2
    cases q : rdStep s0 x with
    | nx s' => rw [q] at h2; exact rd_inv (P := fun s => 1 ≤ s.2.1.length) (rd_pos (rd_nx q)) (fun _ _ _ _ z => rd_pos z) h2
    | rt r => rw [q] at h2; cases h2
theorem rdSights {p : List Str} {s : List Sight} (h : ∀ x ∈ s, m_P_is_sight x p = true) (hl : s.length ≤ 24) : m_P_are_all_at_is_sight s 24 p = true := by
  unfold m_P_are_all_at_is_sight
  rw [loop_all (fun x => m_P_is_sight x p), List.all_eq_true.mpr h, decide_eq_false (show ¬ (24 : Int) < (s.length : Int) by omega)]
  rfl
theorem rdTalks {p : List Str} {s : List Talk} (h : ∀ x ∈ s, m_P_is_talk x p = true) (hl : s.length ≤ 120) : m_P_are_all_at_is_talk s 120 p = true := by
  unfold m_P_are_all_at_is_talk
  rw [loop_all (fun x => m_P_is_talk x p), List.all_eq_true.mpr h, decide_eq_false (show ¬ (120 : Int) < (s.length : Int) by omega)]
  rfl
theorem rdSays {p : List Str} {s : List Sy} (h : ∀ x ∈ s, m_P_is_saying x p = true) (hl : s.length ≤ 60) : m_P_are_all_at_is_saying s 60 p = true := by
  unfold m_P_are_all_at_is_saying
  rw [loop_all (fun x => m_P_is_saying x p), List.all_eq_true.mpr h, decide_eq_false (show ¬ (60 : Int) < (s.length : Int) by omega)]
  rfl
theorem RdInv.good {s : RdS} (h : RdInv s) (h1 : 1 ≤ s.2.1.length) : goodBook s.2.1 s.2.2.1 s.2.2.2.1 s.2.2.2.2 := ⟨good_persons h.nm ⟨h1, h.n24⟩, rdSights h.sv h.s24, rdTalks h.tk h.t120, rdSays h.sy h.y60⟩
theorem rd_good {t : Str} {l0 : Int} {s : RdS} (e0 : l0 = 0) (h : loopL rdStep (enumL (Txt.split t ("\n" : Str))) (l0, [], [], [], []) = .nx s) : goodBook s.2.1 s.2.2.1 s.2.2.2.1 s.2.2.2.2 := by
  subst e0
  refine (rd_inv inv0 rd_keep h).good (rd_pos2 ?_ h)
  rw [enumL_len]
  exact (split_len (by decide +kernel) (by decide +kernel)).1
def m_L_kind_rows (a_names_here : (List Str)) (a_kind : Int) (a_many_here : Int) (a_cell : Int) : (List Str) :=
  lt ((upto a_many_here).foldl (fun (s_3 : (List Str)) (x_4 : Int) =>
    lt ((((a_cell % (100000000000000000000 : Int)) + ((7 : Int) * x_4)) * (48271 : Int)) % (2147483647 : Int)) fun number_11 =>
    lt (decS ((1000000000000000000 : Int) - (number_11 % (3 : Int)))) fun hour_12 =>
    lt (nth a_names_here ((number_11 / (3 : Int)) % (2 : Int))) fun one_13 =>
    lt (nth a_names_here ((1 : Int) - ((number_11 / (3 : Int)) % (2 : Int)))) fun two_14 =>
    (if (decide (a_kind = (1 : Int))) then
      lt (s_3 ++ [((((("saw " : Str) ++ one_13) ++ (" " : Str)) ++ hour_12) ++ (" b" : Str))]) fun rows_16 =>
      rows_16
    else
      (if (decide (a_kind = (2 : Int))) then
        lt (s_3 ++ [(((((("talk " : Str) ++ hour_12) ++ (" " : Str)) ++ one_13) ++ (nth ([(" " : Str), (" to " : Str)]) ((number_11 / (7 : Int)) % (2 : Int)))) ++ two_14)]) fun rows_18 =>
        rows_18
      else
        (if (decide (((number_11 / (7 : Int)) % (2 : Int)) = (0 : Int))) then
          lt (s_3 ++ [((one_13 ++ (" heard nobody by " : Str)) ++ hour_12)]) fun rows_20 =>
          rows_20
        else
          lt (s_3 ++ [((one_13 ++ (" told nobody from 0 to " : Str)) ++ hour_12)]) fun rows_21 =>
          rows_21)))) ([] : List Str)) fun (s_3 : (List Str)) =>
  s_3
def krow (ns : List Str) (kind cell k : Int) : Str :=
  if decide (kind = (1 : Int)) = true then (((("saw " : Str) ++ nth ns ((((cell % (100000000000000000000 : Int)) + ((7 : Int) * k)) * (48271 : Int)) % (2147483647 : Int) / 3 % 2)) ++ (" " : Str)) ++ decS ((1000000000000000000 : Int) - ((((cell % (100000000000000000000 : Int)) + ((7 : Int) * k)) * (48271 : Int)) % (2147483647 : Int) % (3 : Int)))) ++ (" b" : Str)
  else if decide (kind = (2 : Int)) = true then ((((("talk " : Str) ++ decS ((1000000000000000000 : Int) - ((((cell % (100000000000000000000 : Int)) + ((7 : Int) * k)) * (48271 : Int)) % (2147483647 : Int) % (3 : Int)))) ++ (" " : Str)) ++ nth ns ((((cell % (100000000000000000000 : Int)) + ((7 : Int) * k)) * (48271 : Int)) % (2147483647 : Int) / 3 % 2)) ++ nth ([(" " : Str), (" to " : Str)]) ((((cell % (100000000000000000000 : Int)) + ((7 : Int) * k)) * (48271 : Int)) % (2147483647 : Int) / (7 : Int) % (2 : Int))) ++ nth ns ((1 : Int) - (((((cell % (100000000000000000000 : Int)) + ((7 : Int) * k)) * (48271 : Int)) % (2147483647 : Int)) / 3 % 2))
  else if decide (((((cell % (100000000000000000000 : Int)) + ((7 : Int) * k)) * (48271 : Int)) % (2147483647 : Int) / (7 : Int)) % (2 : Int) = (0 : Int)) = true then (nth ns ((((cell % (100000000000000000000 : Int)) + ((7 : Int) * k)) * (48271 : Int)) % (2147483647 : Int) / 3 % 2) ++ (" heard nobody by " : Str)) ++ decS ((1000000000000000000 : Int) - ((((cell % (100000000000000000000 : Int)) + ((7 : Int) * k)) * (48271 : Int)) % (2147483647 : Int) % (3 : Int)))
  else (nth ns ((((cell % (100000000000000000000 : Int)) + ((7 : Int) * k)) * (48271 : Int)) % (2147483647 : Int) / 3 % 2) ++ (" told nobody from 0 to " : Str)) ++ decS ((1000000000000000000 : Int) - ((((cell % (100000000000000000000 : Int)) + ((7 : Int) * k)) * (48271 : Int)) % (2147483647 : Int) % (3 : Int)))
theorem foldl_m1 {α β : Type} {f : List β → α → List β} {g : α → β} (h : ∀ s x, f s x = s ++ [g x]) : ∀ {xs : List α} {s0 : List β}, xs.foldl f s0 = s0 ++ xs.map g
  | [], s0 => (List.append_nil _).symm
  | x :: xs, s0 => by rw [List.foldl_cons, foldl_m1 h, h, List.append_assoc]; rfl
def krStep (a_names_here : List Str) (a_kind a_cell : Int) : List Str → Int → List Str := (fun (s_3 : (List Str)) (x_4 : Int) =>
    lt ((((a_cell % (100000000000000000000 : Int)) + ((7 : Int) * x_4)) * (48271 : Int)) % (2147483647 : Int)) fun number_11 =>
    lt (decS ((1000000000000000000 : Int) - (number_11 % (3 : Int)))) fun hour_12 =>
    lt (nth a_names_here ((number_11 / (3 : Int)) % (2 : Int))) fun one_13 =>
    lt (nth a_names_here ((1 : Int) - ((number_11 / (3 : Int)) % (2 : Int)))) fun two_14 =>
    (if (decide (a_kind = (1 : Int))) then
      lt (s_3 ++ [((((("saw " : Str) ++ one_13) ++ (" " : Str)) ++ hour_12) ++ (" b" : Str))]) fun rows_16 =>
      rows_16
    else
      (if (decide (a_kind = (2 : Int))) then
        lt (s_3 ++ [(((((("talk " : Str) ++ hour_12) ++ (" " : Str)) ++ one_13) ++ (nth ([(" " : Str), (" to " : Str)]) ((number_11 / (7 : Int)) % (2 : Int)))) ++ two_14)]) fun rows_18 =>
        rows_18
      else
        (if (decide (((number_11 / (7 : Int)) % (2 : Int)) = (0 : Int))) then
          lt (s_3 ++ [((one_13 ++ (" heard nobody by " : Str)) ++ hour_12)]) fun rows_20 =>
          rows_20
        else
          lt (s_3 ++ [((one_13 ++ (" told nobody from 0 to " : Str)) ++ hour_12)]) fun rows_21 =>
          rows_21))))
theorem kr_step (ns : List Str) (kind cell : Int) (s : List Str) (x : Int) : krStep ns kind cell s x = s ++ [krow ns kind cell x] := by
  unfold krow krStep
  simp only [lt]
  split
  · rfl
  · split
    · rfl
    · split <;> rfl
theorem kr_is {ns : List Str} {kind many cell : Int} : m_L_kind_rows ns kind many cell = (upto many).map (krow ns kind cell) := by
  have e := foldl_m1 (kr_step ns kind cell) (xs := upto many) (s0 := [])
  exact e.trans (List.nil_append _)
structure Nm75 (l : List Str) : Prop where
  n1 : 24 ≤ l.length
  n2 : l.length ≤ 26
  n12 : ∀ t ∈ l, t.length ≤ 12
theorem Nm75.at {l : List Str} (h : Nm75 l) {i : Int} (hi : 0 ≤ i ∧ i < 24) : (nth l i).length ≤ 12 := h.n12 _ (nth_mem (by have := h.n1; unfold inR; omega))
theorem nm75_len {t : Str} (h : m_P_is_name (Va.str t) = true) : t.length ≤ 12 := by
  unfold m_P_is_name at h
  split at h
  · cases h
  · next hc =>
    simp only [Bool.not_eq_true, Bool.or_eq_false_iff, Bool.not_eq_false', Bool.and_eq_true, decide_eq_true_eq] at hc
    have := hc.2.1.2
    have e : (Va.str t).asS = t := rfl
    rw [e] at this
    omega
theorem nm75_1 {l : List Str} {n : Int} (e : l = m_L_names n) : Nm75 l := by
  subst e
  have h := names_len n
  exact ⟨by omega, by omega, fun t ht => nm75_len ((names_good n).2 t ht)⟩
theorem nm75_2 {l : List Str} {n : Int} (e : l = m_L_names n ++ [("ccccccccccc" : Str) ++ ("w" : Str), ("ccccccccccc" : Str) ++ ("x" : Str)]) : Nm75 l := by
  subst e
  have h := names_len n
  refine ⟨by rw [List.length_append]; omega, by rw [List.length_append]; simp only [List.length_cons, List.length_nil]; omega, fun t ht => ?_⟩
  rcases List.mem_append.mp ht with ht | ht
  · exact nm75_len ((names_good n).2 t ht)
  · have e1 : ("ccccccccccc" : Str).length = 11 := by decide +kernel
    have e2 : ("w" : Str).length = 1 := by decide +kernel
    have e3 : ("x" : Str).length = 1 := by decide +kernel
    rcases List.mem_cons.mp ht with rfl | ht
    · rw [slen_app]; omega
    · rw [List.mem_singleton.mp ht, slen_app]; omega
structure Mn75 (l : List Int) : Prop where
  len : l.length = 4
  lo : 2 ≤ nth l 0 ∧ nth l 0 ≤ 26
  hi : ∀ i, 0 ≤ i ∧ i < 4 → 0 ≤ nth l i ∧ nth l i ≤ 122
theorem four_int {i : Int} (h : 0 ≤ i ∧ i < 4) : i = 0 ∨ i = 1 ∨ i = 2 ∨ i = 3 := by omega
theorem many75 {c l : List Int} (e : l = m_L_many c) : Mn75 l := by
  subst e
  unfold m_L_many
  simp only [lt]
  generalize h1 : nth c 0 % 3 = a
  generalize h2 : nth c 1 % 3 = b
  generalize h3 : nth c 2 % 3 = d
  generalize h4 : nth c 4 % 3 = f
  have ha : 0 ≤ a ∧ a ≤ 2 := by omega
  have hb : 0 ≤ b ∧ b ≤ 2 := by omega
  have hd : 0 ≤ d ∧ d ≤ 2 := by omega
  have hf : 0 ≤ f ∧ f ≤ 2 := by omega
  rcases four_int (i := nth c 3 % 4) ⟨by omega, by omega⟩ with e | e | e | e <;> rw [e]
  · refine ⟨rfl, by show 2 ≤ (24 : Int) + f ∧ (24 : Int) + f ≤ 26; omega, fun i hi => ?_⟩
    rcases four_int hi with rfl | rfl | rfl | rfl
    · show 0 ≤ (24 : Int) + f ∧ (24 : Int) + f ≤ 122; omega
    · show 0 ≤ a ∧ a ≤ 122; omega
    · show 0 ≤ b ∧ b ≤ 122; omega
    · show 0 ≤ d ∧ d ≤ 122; omega
  · refine ⟨rfl, by show 2 ≤ (2 : Int) ∧ (2 : Int) ≤ 26; omega, fun i hi => ?_⟩
    rcases four_int hi with rfl | rfl | rfl | rfl
    · show 0 ≤ (2 : Int) ∧ (2 : Int) ≤ 122; omega
    · show 0 ≤ (24 : Int) + f ∧ (24 : Int) + f ≤ 122; omega
    · show 0 ≤ b ∧ b ≤ 122; omega
    · show 0 ≤ d ∧ d ≤ 122; omega
  · refine ⟨rfl, by show 2 ≤ (2 : Int) ∧ (2 : Int) ≤ 26; omega, fun i hi => ?_⟩
    rcases four_int hi with rfl | rfl | rfl | rfl
    · show 0 ≤ (2 : Int) ∧ (2 : Int) ≤ 122; omega
    · show 0 ≤ a ∧ a ≤ 122; omega
    · show 0 ≤ (120 : Int) + f ∧ (120 : Int) + f ≤ 122; omega
    · show 0 ≤ d ∧ d ≤ 122; omega
  · refine ⟨rfl, by show 2 ≤ (2 : Int) ∧ (2 : Int) ≤ 26; omega, fun i hi => ?_⟩
    rcases four_int hi with rfl | rfl | rfl | rfl
    · show 0 ≤ (2 : Int) ∧ (2 : Int) ≤ 122; omega
    · show 0 ≤ a ∧ a ≤ 122; omega
    · show 0 ≤ b ∧ b ≤ 122; omega
    · show 0 ≤ (60 : Int) + f ∧ (60 : Int) + f ≤ 122; omega
theorem krow_len {ns : List Str} (h : Nm75 ns) (kind cell k : Int) : (krow ns kind cell k).length ≤ 100 := by
  unfold krow
  generalize (((cell % (100000000000000000000 : Int)) + ((7 : Int) * k)) * (48271 : Int)) % (2147483647 : Int) = n
  have h1 := h.at (i := n / 3 % 2) (by omega)
  have h2 := h.at (i := 1 - n / 3 % 2) (by omega)
  have h3 := dec_len (i := (1000000000000000000 : Int) - n % 3) (by omega)
  have e1 : ("saw " : Str).length = 4 := by decide +kernel
  have e2 : (" " : Str).length = 1 := by decide +kernel
  have e3 : (" b" : Str).length = 2 := by decide +kernel
  have e4 : ("talk " : Str).length = 5 := by decide +kernel
  have e5 : (" to " : Str).length = 4 := by decide +kernel
  have e6 : (" heard nobody by " : Str).length = 17 := by decide +kernel
  have e7 : (" told nobody from 0 to " : Str).length = 23 := by decide +kernel
  have e8 : (nth ([(" " : Str), (" to " : Str)]) (n / (7 : Int) % (2 : Int))).length ≤ 4 := by
    rcases (show n / 7 % 2 = 0 ∨ n / 7 % 2 = 1 by omega) with e | e <;> rw [e]
    · show (" " : Str).length ≤ 4; omega
    · show (" to " : Str).length ≤ 4; omega
  split
  · simp only [slen_app]; omega
  · split
    · simp only [slen_app]; omega
    · split <;> (simp only [slen_app]; omega)
structure Rw75 (l : List Str) (n : Nat) : Prop where
  len : l.length ≤ n
  row : ∀ r ∈ l, r.length ≤ 100
theorem Rw75.kr {l ns : List Str} {n : Nat} (h : Rw75 l n) (hn : Nm75 ns) (kind cell : Int) {m : Int} (hm : m ≤ 122) : Rw75 (l ++ m_L_kind_rows ns kind m cell) (n + 122) := by
  rw [kr_is]
  refine ⟨?_, fun r hr => ?_⟩
  · rw [List.length_append, List.length_map, upto_len]; have := h.len; omega
  · rcases List.mem_append.mp hr with hr | hr
    · exact h.row r hr
    · obtain ⟨k, _, rfl⟩ := List.mem_map.mp hr
      exact krow_len hn kind cell k
theorem rw75_fold {f : List Str × Option Int → Int → List Str × Option Int} {ns : List Str} {many : List Int} {cell : Int} (hf : ∀ s x, (f s x).1 = s.1 ++ m_L_kind_rows ns x (nth many x) cell) (hn : Nm75 ns) (hm : Mn75 many) : ∀ {xs : List Int} {s0 : List Str × Option Int} {n : Nat}, (∀ x ∈ xs, 0 ≤ x ∧ x < 4) → Rw75 s0.1 n → Rw75 (xs.foldl f s0).1 (n + 122 * xs.length)
  | [], s0, n, _, h => h
  | x :: xs, s0, n, hx, h => by
    have ih := rw75_fold hf hn hm (xs := xs) (s0 := f s0 x) (n := n + 122) (fun y hy => hx y (List.mem_cons_of_mem _ hy)) (by rw [hf]; exact h.kr hn _ _ (hm.hi x (hx x List.mem_cons_self)).2)
    rw [List.foldl_cons, List.length_cons, show n + 122 * (xs.length + 1) = n + 122 + 122 * xs.length by omega]
    exact ih
theorem per75 {ns : List Str} (hn : Nm75 ns) {i j : Option Int} : Rw75 ((cut ns i j).map fun e => ("person " : Str) ++ e) 26 := by
  refine ⟨?_, fun r hr => ?_⟩
  · rw [List.length_map]; exact Nat.le_trans cut_len hn.n2
  · obtain ⟨e, he, rfl⟩ := List.mem_map.mp hr
    have e1 : ("person " : Str).length = 7 := by decide +kernel
    have h2 := hn.n12 e (by unfold cut at he; exact List.mem_of_mem_drop (List.mem_of_mem_take he))
    rw [slen_app]; omega
theorem Rw75.set {l : List Str} {n : Nat} (h : Rw75 l n) (i : Nat) {r : Str} (hr : r.length ≤ 100) : Rw75 (l.set i r) n := ⟨by rw [List.length_set]; exact h.len, fun x hx => by
  rcases List.mem_or_eq_of_mem_set hx with hx | rfl
  · exact h.row x hx
  · exact hr⟩
theorem Rw75.sum {l : List Str} (h : Rw75 l 400) : (Str.join ("\n" : Str) l).length ≤ 1000000 ∧ (l.map fun x : Str => x.length).sum + l.length * ("\n" : Str).length ≤ 16777216 := by
  have h1 : (l.map fun x : Str => x.length).sum ≤ 100 * l.length := by
    have h2 := h.row
    clear h
    induction l with
    | nil => exact Nat.le_refl _
    | cons a l ih =>
      have := ih fun r hr => h2 r (List.mem_cons_of_mem _ hr)
      have := h2 a List.mem_cons_self
      simp only [List.map_cons, List.sum_cons, List.length_cons]
      omega
  have h3 := h.len
  have e : ("\n" : Str).length = 1 := by decide +kernel
  refine ⟨?_, by rw [e]; omega⟩
  refine Nat.le_trans (join_len _ _) ?_
  rw [e]
  omega
theorem krl_len {pre : List Int} {ns : List Str} {kind cell : Int} : (pre.foldl (krStep ns kind cell) []).length = pre.length := by
  rw [foldl_m1 (kr_step ns kind cell), List.nil_append, List.length_map]
theorem two_le (n : Int) : (nth ([(" " : Str), (" to " : Str)]) (n / (7 : Int) % (2 : Int))).length ≤ 4 := by
  have e2 : (" " : Str).length = 1 := by decide +kernel
  have e5 : (" to " : Str).length = 4 := by decide +kernel
  rcases (show n / 7 % 2 = 0 ∨ n / 7 % 2 = 1 by omega) with e | e <;> rw [e]
  · show (" " : Str).length ≤ 4; omega
  · show (" to " : Str).length ≤ 4; omega
theorem cells75 (l : List Int) : (cut (l ++ [(0 : Int), 0, 0, 0, 0, 0, 0]) none (some (7 : Int))).length = 7 := by
  have e1 : HT.sIx (l ++ [(0 : Int), 0, 0, 0, 0, 0, 0]).length 0 none = 0 := rfl
  have hl : (l ++ [(0 : Int), 0, 0, 0, 0, 0, 0]).length = l.length + 7 := by rw [List.length_append]; rfl
  have e2 : HT.sIx (l ++ [(0 : Int), 0, 0, 0, 0, 0, 0]).length (l ++ [(0 : Int), 0, 0, 0, 0, 0, 0]).length (some (7 : Int)) = 7 := by rw [hl]; unfold HT.sIx; simp only []; split <;> omega
  unfold cut
  rw [e1, e2, List.drop_zero, List.length_take, hl]
  omega
theorem at75 {c : Int} {n : Nat} {m0 : Int} (h : (decide (c % 4 = 1) && decide (m0 < (n : Int))) = true) (h0 : 0 ≤ m0) : 0 ≤ m0 + c / 4 % ((n : Int) - m0) ∧ m0 + c / 4 % ((n : Int) - m0) < (n : Int) := by
  simp only [Bool.and_eq_true, decide_eq_true_eq] at h
  have h1 := Int.emod_nonneg (c / 4) (b := (n : Int) - m0) (by omega)
  have h2 := Int.emod_lt_of_pos (c / 4) (b := (n : Int) - m0) (by omega)
  omega
theorem krl_len2 (ns : List Str) (kind many cell : Int) : (m_L_kind_rows ns kind many cell).length = many.toNat := by rw [kr_is, List.length_map, upto_len]
theorem bad75 {a : Str} (h : a.length ≤ 12) : (a ++ (" knew by 1" : Str)).length ≤ 30 ∧ ((a ++ (" knew by 1" : Str)) ++ ("00000000000000000" : Str)).length ≤ 60 := by
  have e1 : (" knew by 1" : Str).length = 10 := by decide +kernel
  have e2 : ("00000000000000000" : Str).length = 17 := by decide +kernel
  simp only [slen_app]; omega
theorem bad75_len {ns : List Str} (h : Nm75 ns) : ((((nth ns (0 : Int)) ++ (" knew by 1" : Str)) ++ ("00000000000000000" : Str)) ++ ("1" : Str)).length ≤ 100 := by
  have h0 := h.at (i := 0) (by decide)
  have e1 : (" knew by 1" : Str).length = 10 := by decide +kernel
  have e2 : ("00000000000000000" : Str).length = 17 := by decide +kernel
  have e3 : ("1" : Str).length = 1 := by decide +kernel
  simp only [slen_app]; omega
theorem cut_mem {α : Type} {xs : List α} {i j : Option Int} {x : α} (h : x ∈ cut xs i j) : x ∈ xs := by
  unfold cut at h
  exact List.mem_of_mem_drop (List.mem_of_mem_take h)
def m_P_Book_persons (a_self : BookV) : (List Str) :=
  a_self.crew
def m_P_Book_sights (a_self : BookV) : (List (Str × Int × (List Str))) :=
  a_self.views
def m_P_Book_talks (a_self : BookV) : (List (Int × Str × Str × Str)) :=
  a_self.meetings
def m_P_Book_sayings (a_self : BookV) : (List Sy) :=
  a_self.claims
def m_L_law (a_script : (List Int)) : Bool :=
  lt (cut (a_script ++ ([(0 : Int), (0 : Int), (0 : Int), (0 : Int), (0 : Int), (0 : Int), (0 : Int)])) none (some (7 : Int))) fun cells_1 =>
  lt (m_L_names (nth cells_1 (5 : Int))) fun names_here_2 =>
  lt (names_here_2 ++ ([(("ccccccccccc" : Str) ++ ("w" : Str)), (("ccccccccccc" : Str) ++ ("x" : Str))])) fun names_here_3 =>
  lt (m_L_many cells_1) fun many_here_4 =>
  lt (none : (Option Int)) fun due_10 =>
  lt (if (decide ((24 : Int) < (nth many_here_4 (0 : Int)))) then
    lt (some (24 : Int)) fun due_13 =>
    due_13
  else
    due_10) fun (s_12 : (Option Int)) =>
  lt ((range2 (1 : Int) (4 : Int)).foldl (fun (s_14 : (List Str) × (Option Int)) (x_15 : Int) =>
    lt (if ((s_14.2.isNone) && (decide ((nth ([(24 : Int), (24 : Int), (120 : Int), (60 : Int)]) x_15) < (nth many_here_4 x_15)))) then
      lt (some ((s_14.1.length : Int) + (nth ([(24 : Int), (24 : Int), (120 : Int), (60 : Int)]) x_15))) fun due_27 =>
      due_27
    else
      s_14.2) fun (s_26 : (Option Int)) =>
    ((s_14.1 ++ (m_L_kind_rows names_here_3 x_15 (nth many_here_4 x_15) (nth cells_1 (6 : Int)))), s_26)) (((cut names_here_3 none (some (nth many_here_4 (0 : Int)))).map fun e_5 => (("person " : Str) ++ e_5)), s_12)) fun (s_14 : (List Str) × (Option Int)) =>
  lt (if ((decide (((nth cells_1 (6 : Int)) % (4 : Int)) = (1 : Int))) && (decide ((nth many_here_4 (0 : Int)) < (s_14.1.length : Int)))) then
    lt ((nth many_here_4 (0 : Int)) + (((nth cells_1 (6 : Int)) / (4 : Int)) % ((s_14.1.length : Int) - (nth many_here_4 (0 : Int))))) fun at_34 =>
    lt (s_14.1.set at_34.toNat ((((nth names_here_3 (0 : Int)) ++ (" knew by 1" : Str)) ++ ("00000000000000000" : Str)) ++ ("1" : Str))) fun rows_35 =>
    (if ((s_14.2.isNone) || (decide (at_34 < (s_14.2.getD default)))) then
      lt (some at_34) fun due_39 =>
      (rows_35, due_39)
    else
      (rows_35, s_14.2))
  else
    (s_14.1, s_14.2)) fun (s_33 : (List Str) × (Option Int)) =>
  lt () fun found_40 =>
  (ls (m_P_read_book (Str.join ("\n" : Str) s_33.1))
    (fun xr_41 =>
    ((!s_33.2.isNone) && (decide (xr_41 = (s_33.2.getD default)))))
    (fun y_42 =>
    lt ([((m_P_Book_persons y_42).length : Int), ((m_P_Book_sights y_42).length : Int), ((m_P_Book_talks y_42).length : Int), ((m_P_Book_sayings y_42).length : Int)]) fun told_46 =>
    ((s_33.2.isNone) && (decide (told_46 = many_here_4)))))
end Kn
namespace Kn
open PySem PySem.Spec L2
local macro_rules | `(tactic| trivial) => `(tactic| omega)
local macro_rules | `(tactic| trivial) => `(tactic| (unfold inR; omega))
local macro_rules | `(tactic| trivial) => `(tactic| (simp only [inR, sizeN, slen_app, signAt_len, upto_len, range2_len, enumL_len, signs_len, List.length_append, List.length_cons, List.length_nil, List.length_map] at *; omega))
local macro_rules | `(tactic| trivial) => `(tactic| (apply inR_mod; omega))
local macro_rules | `(tactic| trivial) => `(tactic| exact inR_bi)
local macro_rules | `(tactic| trivial) => `(tactic| (simp only [Bool.and_eq_true, Bool.or_eq_false_iff, decide_eq_true_eq, decide_eq_false_iff_not, Bool.not_eq_true', Bool.not_eq_false'] at *; omega))
local macro_rules | `(tactic| trivial) => `(tactic| (simp only [List.map_map, Function.comp_def, signAt_len, List.length_map, upto_len, List.map_const', List.sum_replicate_nat, empty_len]; omega))
local macro_rules | `(tactic| trivial) => `(tactic| (apply inR_mod; assumption))
local macro_rules | `(tactic| trivial) => `(tactic| assumption)
local macro_rules | `(tactic| trivial) => `(tactic| solve_by_elim)
local macro_rules | `(tactic| trivial) => `(tactic| (apply And.intro <;> assumption))
local macro_rules | `(tactic| trivial) => `(tactic| (show _ ∧ _; omega))
local macro_rules | `(tactic| trivial) => `(tactic| (show _ ∈ _; refine of_decide_eq_true ?_; assumption))
local macro_rules | `(tactic| trivial) => `(tactic| (apply has_srt; assumption))
local macro_rules | `(tactic| trivial) => `(tactic| (rw [srt_len]; unfold kys; rw [List.length_map]; omega))
local macro_rules | `(tactic| trivial) => `(tactic| (apply And.intro <;> first | assumption | omega | (apply And.intro <;> first | assumption | omega)))
local macro_rules | `(tactic| trivial) => `(tactic| (apply And.intro; assumption; apply wy_nsaw; assumption))
local macro_rules | `(tactic| trivial) => `(tactic| (simp only [List.length_reverse, List.length_append, sizeN] at *; omega))
local macro_rules | `(tactic| trivial) => `(tactic| (simp only [sizeN, slen_app]; omega))
def sp_P_hour_in (G : Cfg) : SpecD := fun ds O rk => ∃ (a_word : Str), (True) ∧ ds = [dS a_word] ∧ rk = RK.val (dI (m_P_hour_in a_word)) O
def sp_P_saying_in (G : Cfg) : SpecD := fun ds O rk => ∃ (a_words : (List Str)), (1 ≤ a_words.length) ∧ ds = [(dLo G.K dS) a_words] ∧ rk = RK.val ((dO (dSy G.K)) (m_P_saying_in a_words)) O
def sp_P_talk_in (G : Cfg) : SpecD := fun ds O rk => ∃ (a_words : (List Str)), (1 ≤ a_words.length) ∧ ds = [(dLo G.K dS) a_words] ∧ rk = RK.val ((dO (dT4 G.K dI dS dS dS)) (m_P_talk_in a_words)) O
def sp_P_is_whole (G : Cfg) : SpecD := fun ds O rk => ∃ (a_thing : Va), (True) ∧ ds = [(dA G.K) a_thing] ∧ rk = RK.val (dB (m_P_is_whole a_thing)) O
def sp_P_is_hour (G : Cfg) : SpecD := fun ds O rk => ∃ (a_thing : Va), (True) ∧ ds = [(dA G.K) a_thing] ∧ rk = RK.val (dB (m_P_is_hour a_thing)) O
def sp_P_are_two (G : Cfg) : SpecD := fun ds O rk => ∃ (a_one : Str) (a_other : Str) (a_persons : (List Str)), (True) ∧ ds = [dS a_one, dS a_other, (dLo G.K dS) a_persons] ∧ rk = RK.val (dB (m_P_are_two a_one a_other a_persons)) O
def sp_P_is_saying (G : Cfg) : SpecD := fun ds O rk => ∃ (a_thing : Sy) (a_persons : (List Str)), (True) ∧ ds = [(dSy G.K) a_thing, (dLo G.K dS) a_persons] ∧ rk = RK.val (dB (m_P_is_saying a_thing a_persons)) O
def sp_P_is_name (G : Cfg) : SpecD := fun ds O rk => ∃ (a_thing : Va), (True) ∧ ds = [(dA G.K) a_thing] ∧ rk = RK.val (dB (m_P_is_name a_thing)) O
def sp_P_is_tuple_of (G : Cfg) : SpecD := fun ds O rk => ∃ (a_thing : Va) (a_many : Int), (True) ∧ ds = [(dA G.K) a_thing, dI a_many] ∧ rk = RK.val (dB (m_P_is_tuple_of a_thing a_many)) O
def sp_P_is_tale (G : Cfg) : SpecD := fun ds O rk => ∃ (a_thing : (List Str)), (True) ∧ ds = [(dVt G.K dS) a_thing] ∧ rk = RK.val (dB (m_P_is_tale a_thing)) O
def sp_P_is_sight (G : Cfg) : SpecD := fun ds O rk => ∃ (a_thing : (Str × Int × (List Str))) (a_persons : (List Str)), (True) ∧ ds = [(dT3 G.K dS dI (dVt G.K dS)) a_thing, (dLo G.K dS) a_persons] ∧ rk = RK.val (dB (m_P_is_sight a_thing a_persons)) O
def sp_P_is_talk (G : Cfg) : SpecD := fun ds O rk => ∃ (a_thing : (Int × Str × Str × Str)) (a_persons : (List Str)), (True) ∧ ds = [(dT4 G.K dI dS dS dS) a_thing, (dLo G.K dS) a_persons] ∧ rk = RK.val (dB (m_P_is_talk a_thing a_persons)) O
def sp_P_told_by_at_0 (G : Cfg) : SpecD := fun ds O rk => ∃ (a_words : (List Str)) (a_kind : Int) (a_persons : (List Str)), (1 ≤ a_words.length ∧ a_kind = (0 : Int)) ∧ ds = [(dLo G.K dS) a_words, dI a_kind, (dLo G.K dS) a_persons] ∧ rk = RK.val ((dO dS) (m_P_told_by_at_0 a_words a_kind a_persons)) O
def sp_P_told_by_at_1 (G : Cfg) : SpecD := fun ds O rk => ∃ (a_words : (List Str)) (a_kind : Int) (a_persons : (List Str)), (1 ≤ a_words.length ∧ a_kind = (1 : Int)) ∧ ds = [(dLo G.K dS) a_words, dI a_kind, (dLo G.K dS) a_persons] ∧ rk = RK.val ((dO (dT3 G.K dS dI (dVt G.K dS))) (m_P_told_by_at_1 a_words a_kind a_persons)) O
def sp_P_is_talk_at_n (G : Cfg) : SpecD := fun ds O rk => ∃ (a_thing : Unit) (a_persons : (List Str)), (True) ∧ ds = [dU a_thing, (dLo G.K dS) a_persons] ∧ rk = RK.val (dB (m_P_is_talk_at_n a_thing a_persons)) O
def sp_P_told_by_at_2 (G : Cfg) : SpecD := fun ds O rk => ∃ (a_words : (List Str)) (a_kind : Int) (a_persons : (List Str)), (1 ≤ a_words.length ∧ a_kind = (2 : Int)) ∧ ds = [(dLo G.K dS) a_words, dI a_kind, (dLo G.K dS) a_persons] ∧ rk = RK.val ((dO (dT4 G.K dI dS dS dS)) (m_P_told_by_at_2 a_words a_kind a_persons)) O
def sp_P_is_saying_at_n (G : Cfg) : SpecD := fun ds O rk => ∃ (a_thing : Unit) (a_persons : (List Str)), (True) ∧ ds = [dU a_thing, (dLo G.K dS) a_persons] ∧ rk = RK.val (dB (m_P_is_saying_at_n a_thing a_persons)) O
def sp_P_told_by_at_3 (G : Cfg) : SpecD := fun ds O rk => ∃ (a_words : (List Str)) (a_kind : Int) (a_persons : (List Str)), (1 ≤ a_words.length ∧ a_kind = (3 : Int)) ∧ ds = [(dLo G.K dS) a_words, dI a_kind, (dLo G.K dS) a_persons] ∧ rk = RK.val ((dO (dSy G.K)) (m_P_told_by_at_3 a_words a_kind a_persons)) O
def sp_L_names (G : Cfg) : SpecD := fun ds O rk => ∃ (a_cell : Int), (True) ∧ ds = [dI a_cell] ∧ rk = RK.val ((dLo G.K dS) (m_L_names a_cell)) O
def sp_L_many (G : Cfg) : SpecD := fun ds O rk => ∃ (a_cells : (List Int)), (a_cells.length = 7) ∧ ds = [(dLo G.K dI) a_cells] ∧ rk = RK.new ((fun r => oLst (List.map dI r)) (m_L_many a_cells)) O
def sp_P_are_persons (G : Cfg) : SpecD := fun ds O rk => ∃ (a_thing : (List Str)), (True) ∧ ds = [(dLo G.K dS) a_thing] ∧ rk = RK.val (dB (m_P_are_persons a_thing)) O
def sp_P_are_all_at_is_sight (G : Cfg) : SpecD := fun ds O rk => ∃ (a_thing : (List (Str × Int × (List Str)))) (a_most : Int) (a_persons : (List Str)), (True) ∧ ds = [(dLo G.K (dT3 G.K dS dI (dVt G.K dS))) a_thing, dI a_most, (dLo G.K dS) a_persons, dFn G 3 (sp_P_is_sight G)] ∧ rk = RK.val (dB (m_P_are_all_at_is_sight a_thing a_most a_persons)) O
def sp_P_are_all_at_is_talk (G : Cfg) : SpecD := fun ds O rk => ∃ (a_thing : (List (Int × Str × Str × Str))) (a_most : Int) (a_persons : (List Str)), (True) ∧ ds = [(dLo G.K (dT4 G.K dI dS dS dS)) a_thing, dI a_most, (dLo G.K dS) a_persons, dFn G 3 (sp_P_is_talk G)] ∧ rk = RK.val (dB (m_P_are_all_at_is_talk a_thing a_most a_persons)) O
def sp_P_are_all_at_is_saying (G : Cfg) : SpecD := fun ds O rk => ∃ (a_thing : (List Sy)) (a_most : Int) (a_persons : (List Str)), (True) ∧ ds = [(dLo G.K (dSy G.K)) a_thing, dI a_most, (dLo G.K dS) a_persons, dFn G 3 (sp_P_is_saying G)] ∧ rk = RK.val (dB (m_P_are_all_at_is_saying a_thing a_most a_persons)) O
def sp_P_Book (G : Cfg) : SpecD := fun ds O rk => ∃ (p : Addr) (O1 : Own) (a_persons : (List Str)) (a_sights : (List (Str × Int × (List Str)))) (a_talks : (List (Int × Str × Str × Str))) (a_sayings : (List Sy)), (goodBook a_persons a_sights a_talks a_sayings) ∧ O = (p, oIns G "Book" [] []) :: O1 ∧ ds = [dP p, (dLo G.K dS) a_persons, (dLo G.K (dT3 G.K dS dI (dVt G.K dS))) a_sights, (dLo G.K (dT4 G.K dI dS dS dS)) a_talks, (dLo G.K (dSy G.K)) a_sayings] ∧ rk = RK.unit ((p, oIns G "Book" bookNs (bookDs G.K (m_P_Book a_persons a_sights a_talks a_sayings))) :: O1)
def sp_P_read_book (G : Cfg) : SpecD := fun ds O rk => ∃ (a_text : Str), (a_text.length ≤ 1000000 ∧ NoTups O) ∧ ds = [dS a_text] ∧ rk = RK.sum G (fun r : Int => (⟨"NoRow", ["row"], [dI r]⟩ : Xd)) (dBook G) O (m_P_read_book a_text)
def sp_L_kind_rows (G : Cfg) : SpecD := fun ds O rk => ∃ (a_names_here : (List Str)) (a_kind : Int) (a_many_here : Int) (a_cell : Int), (Nm75 a_names_here ∧ 0 ≤ a_many_here ∧ a_many_here ≤ 122) ∧ ds = [(dLo G.K dS) a_names_here, dI a_kind, dI a_many_here, dI a_cell] ∧ rk = RK.new ((fun r => oLst (List.map dS r)) (m_L_kind_rows a_names_here a_kind a_many_here a_cell)) O
def sp_P_Book_persons (G : Cfg) : SpecD := fun ds O rk => ∃ (a_self : BookV), (True) ∧ ds = [(dBook G) a_self] ∧ rk = RK.new ((fun r => oLst (List.map dS r)) (m_P_Book_persons a_self)) O
def sp_P_Book_sights (G : Cfg) : SpecD := fun ds O rk => ∃ (a_self : BookV), (True) ∧ ds = [(dBook G) a_self] ∧ rk = RK.new ((fun r => oLst (List.map (dT3 G.K dS dI (dVt G.K dS)) r)) (m_P_Book_sights a_self)) O
def sp_P_Book_talks (G : Cfg) : SpecD := fun ds O rk => ∃ (a_self : BookV), (True) ∧ ds = [(dBook G) a_self] ∧ rk = RK.new ((fun r => oLst (List.map (dT4 G.K dI dS dS dS) r)) (m_P_Book_talks a_self)) O
def sp_P_Book_sayings (G : Cfg) : SpecD := fun ds O rk => ∃ (a_self : BookV), (True) ∧ ds = [(dBook G) a_self] ∧ rk = RK.new ((fun r => oLst (List.map (dSy G.K) r)) (m_P_Book_sayings a_self)) O
def sp_L_law (G : Cfg) : SpecD := fun ds O rk => ∃ (a_script : (List Int)), (a_script.length ≤ 63 ∧ NoTups O) ∧ ds = [(dLo G.K dI) a_script] ∧ rk = RK.val (dB (m_L_law a_script)) O
structure All (G : Cfg) : Prop where
  d_P_hour_in : Def G "hour_in" (top 33)
  d_P_saying_in : Def G "saying_in" (top 34)
  d_P_talk_in : Def G "talk_in" (top 35)
  d_P_is_whole : Def G "is_whole" (top 10)
  d_P_is_hour : Def G "is_hour" (top 11)
  d_P_are_two : Def G "are_two" (top 23)
  d_P_is_saying : Def G "is_saying" (top 25)
  d_P_is_name : Def G "is_name" (top 12)
  d_P_is_tuple_of : Def G "is_tuple_of" (top 19)
  d_P_is_tale : Def G "is_tale" (top 21)
  d_P_is_sight : Def G "is_sight" (top 22)
  d_P_is_talk : Def G "is_talk" (top 24)
  d_P_told_by : Def G "told_by" (top 36)
  d_L_names : Def G "_law_names" (top 39)
  d_L_many : Def G "_law_many" (top 40)
  d_P_are_persons : Def G "are_persons" (top 20)
  d_P_are_all : Def G "are_all" (top 26)
  d_P_read_book : Def G "read_book" (top 37)
  d_L_kind_rows : Def G "_law_kind_rows" (top 41)
  d_L_law : Def G "law" (top 42)
  d_P_Book_persons : DefM G "Book" "persons" "Book.persons" (inClass (top 27) 1)
  d_P_Book_sights : DefM G "Book" "sights" "Book.sights" (inClass (top 27) 2)
  d_P_Book_talks : DefM G "Book" "talks" "Book.talks" (inClass (top 27) 3)
  d_P_Book_sayings : DefM G "Book" "sayings" "Book.sayings" (inClass (top 27) 4)
  i_Book : DefI G "Book" "Book.__init__" (inClass (top 27) 0)
  a_Book_claims : NoAt G "Book" "claims"
  a_Book_crew : NoAt G "Book" "crew"
  a_Book_meetings : NoAt G "Book" "meetings"
  a_Book_views : NoAt G "Book" "views"
  dx_NoRow : DefX G "NoRow" "NoRow.__init__" "KnewError" "row" (inClass (top 4) 0)
  xf_NoRow_row : XfA G "NoRow" "row"
  xc_NoRow_NoRow : Caught G "NoRow" "NoRow"
  b_bool : G.mg "bool" = none
  b_enumerate : G.mg "enumerate" = none
  b_int : G.mg "int" = none
  b_isinstance : G.mg "isinstance" = none
  b_len : G.mg "len" = none
  b_list : G.mg "list" = none
  b_range : G.mg "range" = none
  b_set : G.mg "set" = none
  b_str : G.mg "str" = none
  b_tuple : G.mg "tuple" = none
  c_FIGURES : ∃ t, G.mg "FIGURES" = some (.str K_FIGURES t)
  c_KEPT_WORDS : ∃ p, G.mg "KEPT_WORDS" = some (.ref p) ∧ ∀ H, SqT G.K H p (K_KEPT_WORDS.map V.str)
  c_KINDS : ∃ p, G.mg "KINDS" = some (.ref p) ∧ ∀ H, SqT G.K H p (K_KINDS.map V.str)
  c_LAST_HOUR : ∃ t, G.mg "LAST_HOUR" = some (.int 1000000000000000000 t)
  c_LETTERS : ∃ t, G.mg "LETTERS" = some (.str K_LETTERS t)
  c_LONGEST : ∃ t, G.mg "LONGEST" = some (.int 12 t)
  c_MOST : ∃ p, G.mg "MOST" = some (.ref p) ∧ ∀ H, SqT G.K H p (K_MOST.map V.int)
  c_MOST_FIGURES : ∃ t, G.mg "MOST_FIGURES" = some (.int 19 t)
  c_MOST_PERSONS : ∃ t, G.mg "MOST_PERSONS" = some (.int 24 t)
  c_MOST_SAYINGS : ∃ t, G.mg "MOST_SAYINGS" = some (.int 60 t)
  c_MOST_SIGHTS : ∃ t, G.mg "MOST_SIGHTS" = some (.int 24 t)
  c_MOST_TALKS : ∃ t, G.mg "MOST_TALKS" = some (.int 120 t)
  c_MOST_WORDS : ∃ t, G.mg "MOST_WORDS" = some (.int 6 t)
  ci_KINDS : TupI G "KINDS" K_KINDS
theorem ix_NoRow : InitX (inClass (top 4) 0) 0 "KnewError" "row" "row" where
  sc := scope_of rfl rfl rfl (by decide +kernel)
  v0 := var_of (by decide +kernel)
  v1 := var_of (by decide +kernel)
  gy := glo_of (by decide +kernel)
  body := ⟨_, _, _, _, _, _, _, _, _, _, _, _, rfl, fun _ => ⟨_, rfl⟩, fun _ => rfl, fun _ => rfl, fun _ => rfl, fun _ => rfl⟩
def N_P_hour_in : List Str := ["word", "sign"]
def C_P_hour_in : Sc := ⟨0, N_P_hour_in, defScope (top 33), true, true⟩
instance : Calm C_P_hour_in := ⟨rfl⟩
theorem V_P_hour_in_0 : Var C_P_hour_in 0 "word" := var_of (by decide +kernel)
theorem V_P_hour_in_1 : Var C_P_hour_in 1 "sign" := var_of (by decide +kernel)
theorem S_P_hour_in_1 : Loca C_P_hour_in 1 "sign" := loc_of (by decide +kernel)
theorem G_P_hour_in_FIGURES : Glo C_P_hour_in "FIGURES" := glo_of (by decide +kernel)
theorem G_P_hour_in_LAST_HOUR : Glo C_P_hour_in "LAST_HOUR" := glo_of (by decide +kernel)
theorem G_P_hour_in_MOST_FIGURES : Glo C_P_hour_in "MOST_FIGURES" := glo_of (by decide +kernel)
theorem G_P_hour_in_int : Glo C_P_hour_in "int" := glo_of (by decide +kernel)
theorem G_P_hour_in_len : Glo C_P_hour_in "len" := glo_of (by decide +kernel)
theorem b_P_hour_in {G : Cfg} (A : All G) (O : Own) (a_word : Str) : SS G C_P_hour_in (defBody (top 33)) (frame0 N_P_hour_in [dS a_word]) O (fnV dI O) (.rt (m_P_hour_in a_word)) := by
  unfold m_P_hour_in
  refine ss_when .rt (t_w (w_or (t_not (t_chain c_le (fun _ => c_le) e_int (e_callB k_lenS G_P_hour_in_len A.b_len bt_len (a_cons (e_var V_P_hour_in_0 rfl) a_nil (fun _ => rfl)) (fun _ => rfl)) (fun _ => (e_globI G_P_hour_in_MOST_FIGURES A.c_MOST_FIGURES)) (fun X _ _ _ _ _ h1 h2 h3 h4 h5 => pt_chain h1 h2 h3 h4 h5 (by with_unfolding_all rfl)))) (fun hb_1 => (w_or1 (t_w (w_and (t_cmp c_eqS (e_ixS (e_var V_P_hour_in_0 rfl) e_int (by trivial) (fun _ _ => rfl)) e_str rfl) (fun hb_2 => (w_and1 (t_cmp c_gt (e_callB k_lenS G_P_hour_in_len A.b_len bt_len (a_cons (e_var V_P_hour_in_0 rfl) a_nil (fun _ => rfl)) (fun _ => rfl)) e_int rfl))))))))) (fun _ => nofun) (fun hc_5 => ?_) (fun hc_5 => ?_)
  ·
    exact ss_ret (e_neg e_int) (fun _ _ _ h => h)
  have hwl := len19 hc_5
  refine ss_loop (Γ := [some (dS a_word), none]) (df := dS) (s0 := ()) (fun s_6 : Unit => [some (dS a_word), none]) (fun (s_6 : Unit) (x_7 : Str) => ([some (dS a_word), none]).set 1 (some (dS x_7))) (fun s_6 : Unit => O) (ei_str (e_var V_P_hour_in_0 rfl)) (by exact ⟨.inr rfl, .inl rfl, trivial⟩) rfl (fun _ => trivial) (fun s_6 x_7 => (tj_name S_P_hour_in_1)) ?_ ?_ (fun _ _ => rfl)
  ·
    intro s_6 x_7 pre_8 post_9 hs_10 hf_11
    have hm_12 : x_7 ∈ (signs a_word) := by rw [hs_10]; simp
    have hpl_13 : pre_8.length < ((signs a_word)).length := by rw [hs_10, List.length_append, List.length_cons]; omega
    rw [signs_len] at hpl_13
    have hwl2 := hwl
    refine ss_if Ret.out (t_cmp (c_ninZ hm_12) (e_var V_P_hour_in_1 rfl) (e_globS G_P_hour_in_FIGURES A.c_FIGURES) rfl) (fun hc_14 => ?_) (fun hc_14 => ?_)
    ·
      exact ss_ret (e_neg e_int) (fun _ _ _ h => h)
    ·
      exact ss_end (hold_end (by exact ⟨.inr rfl, .inl rfl, trivial⟩))
  intro s_6 he_L0
  have hdg : (PySem.intText? a_word).isSome = true := digits_read hwl he_L0
  have hwl3 : a_word.length ≤ 640 := by omega
  refine ss_when .rt (t_cmp c_gt (e_callT (k_intT (by trivial) (by trivial)) G_P_hour_in_int A.b_int bt_int (a_cons (e_var V_P_hour_in_0 rfl) a_nil (fun _ => rfl)) (fun _ => rfl)) (e_globI G_P_hour_in_LAST_HOUR A.c_LAST_HOUR) rfl) (fun _ => nofun) (fun hc_15 => ?_) (fun hc_15 => ?_)
  ·
    exact ss_ret (e_neg e_int) (fun _ _ _ h => h)
  exact ss_ret (e_callT (k_intT (by trivial) (by trivial)) G_P_hour_in_int A.b_int bt_int (a_cons (e_var V_P_hour_in_0 rfl) a_nil (fun _ => rfl)) (fun _ => rfl)) (fun _ _ _ h => h)
theorem k_P_hour_in {G : Cfg} (A : All G) : Callee G 1 "hour_in" (sp_P_hour_in G) := by
  refine A.d_P_hour_in.callee (N := N_P_hour_in) (ps := ["word"]) (scope_of rfl rfl rfl (by decide +kernel)) (fun ds O rk h => ?_) (fun _ _ _ _ _ _ us hl => match us, hl with | [_], _ => rfl) (fun ds O rk h => ?_)
  · obtain ⟨a_word, hp, rfl, rfl⟩ := h; rfl
  · obtain ⟨a_word, hp, rfl, rfl⟩ := h; exact ⟨_, _, _, _, b_P_hour_in A O a_word, rfl⟩
def N_P_saying_in : List Str := ["words"]
def C_P_saying_in : Sc := ⟨1, N_P_saying_in, defScope (top 34), true, true⟩
instance : Calm C_P_saying_in := ⟨rfl⟩
theorem V_P_saying_in_0 : Var C_P_saying_in 0 "words" := var_of (by decide +kernel)
theorem G_P_saying_in_hour_in : Glo C_P_saying_in "hour_in" := glo_of (by decide +kernel)
theorem G_P_saying_in_len : Glo C_P_saying_in "len" := glo_of (by decide +kernel)
theorem b_P_saying_in {G : Cfg} (A : All G) (O : Own) (a_words : (List Str)) (hpre : 1 ≤ a_words.length) : SS G C_P_saying_in (defBody (top 34)) (frame0 N_P_saying_in [(dLo G.K dS) a_words]) O (fnV (dO (dSy G.K)) O) (.rt (m_P_saying_in a_words)) := by
  unfold m_P_saying_in
  have := @cut_len _ a_words (some (1 : Int)) (some (3 : Int))
  refine ss_when .rt (t_w (w_and (t_cmp c_eqI (e_callB (k_lenLo (xs := a_words) (f := dS)) G_P_saying_in_len A.b_len bt_len (a_cons (e_var V_P_saying_in_0 rfl) a_nil (fun _ => rfl)) (fun _ => rfl)) e_int rfl) (fun hb_1 => (w_and1 (t_cmp (c_eqDat (f := (dLo G.K dS)) (a := (cut a_words (some (1 : Int)) (some (3 : Int)))) (b := [("knew" : Str), ("by" : Str)]) (dat_lst dat_str) (by decide)) (en_lst (en_cut (f := dS) (xs := a_words) (e_var V_P_saying_in_0 rfl) (eo_some e_int) (eo_some e_int))) (en_lst (en_list (ds := [dS ("knew" : Str), dS ("by" : Str)]) (a_cons e_str (a_cons e_str a_nil (fun _ => rfl)) (fun _ => rfl)) (Nat.le_of_ble_eq_true rfl))) rfl))))) (fun _ => nofun) (fun hc_3 => ?_) (fun hc_3 => ?_)
  ·
    exact ss_ret (e_tup (ds := (Sy.knew (nth a_words (0 : Int)) (m_P_hour_in (nth a_words (3 : Int)))).ds) (a_cons e_str (a_cons (e_nthL (f := dS) (xs := a_words) (e_var V_P_saying_in_0 rfl) e_int (by trivial) (fun _ _ => rfl)) (a_cons (e_call (k_P_hour_in A) (by decide) G_P_saying_in_hour_in ⟨(nth a_words (3 : Int)), True.intro, rfl, rfl⟩ (a_cons (e_nthL (f := dS) (xs := a_words) (e_var V_P_saying_in_0 rfl) e_int (by trivial) (fun _ _ => rfl)) a_nil (fun _ => rfl)) (fun _ => rfl)) a_nil (fun _ => rfl)) (fun _ => rfl)) (fun _ => rfl)) (Nat.le_of_ble_eq_true rfl)) (fun _ _ _ h => h)
  have := @cut_len _ a_words (some (1 : Int)) none
  refine ss_when .rt (t_cmp (c_eqDat (f := (dLo G.K dS)) (a := (cut a_words (some (1 : Int)) none)) (b := [("heard" : Str), ("nobody" : Str), ("never" : Str)]) (dat_lst dat_str) (by decide)) (en_lst (en_cut (f := dS) (xs := a_words) (e_var V_P_saying_in_0 rfl) (eo_some e_int) eo_none)) (en_lst (en_list (ds := [dS ("heard" : Str), dS ("nobody" : Str), dS ("never" : Str)]) (a_cons e_str (a_cons e_str (a_cons e_str a_nil (fun _ => rfl)) (fun _ => rfl)) (fun _ => rfl)) (Nat.le_of_ble_eq_true rfl))) rfl) (fun _ => nofun) (fun hc_4 => ?_) (fun hc_4 => ?_)
  ·
    exact ss_ret (e_tup (ds := (Sy.unheard (nth a_words (0 : Int)) (none : (Option Int))).ds) (a_cons e_str (a_cons (e_nthL (f := dS) (xs := a_words) (e_var V_P_saying_in_0 rfl) e_int (by trivial) (fun _ _ => rfl)) (a_cons e_none a_nil (fun _ => rfl)) (fun _ => rfl)) (fun _ => rfl)) (Nat.le_of_ble_eq_true rfl)) (fun _ _ _ h => h)
  have := @cut_len _ a_words (some (1 : Int)) (some (4 : Int))
  refine ss_when .rt (t_w (w_and (t_cmp c_eqI (e_callB (k_lenLo (xs := a_words) (f := dS)) G_P_saying_in_len A.b_len bt_len (a_cons (e_var V_P_saying_in_0 rfl) a_nil (fun _ => rfl)) (fun _ => rfl)) e_int rfl) (fun hb_5 => (w_and1 (t_cmp (c_eqDat (f := (dLo G.K dS)) (a := (cut a_words (some (1 : Int)) (some (4 : Int)))) (b := [("heard" : Str), ("nobody" : Str), ("by" : Str)]) (dat_lst dat_str) (by decide)) (en_lst (en_cut (f := dS) (xs := a_words) (e_var V_P_saying_in_0 rfl) (eo_some e_int) (eo_some e_int))) (en_lst (en_list (ds := [dS ("heard" : Str), dS ("nobody" : Str), dS ("by" : Str)]) (a_cons e_str (a_cons e_str (a_cons e_str a_nil (fun _ => rfl)) (fun _ => rfl)) (fun _ => rfl)) (Nat.le_of_ble_eq_true rfl))) rfl))))) (fun _ => nofun) (fun hc_7 => ?_) (fun hc_7 => ?_)
  ·
    exact ss_ret (e_tup (ds := (Sy.unheard (nth a_words (0 : Int)) (some (m_P_hour_in (nth a_words (4 : Int))))).ds) (a_cons e_str (a_cons (e_nthL (f := dS) (xs := a_words) (e_var V_P_saying_in_0 rfl) e_int (by trivial) (fun _ _ => rfl)) (a_cons (e_call (k_P_hour_in A) (by decide) G_P_saying_in_hour_in ⟨(nth a_words (4 : Int)), True.intro, rfl, rfl⟩ (a_cons (e_nthL (f := dS) (xs := a_words) (e_var V_P_saying_in_0 rfl) e_int (by trivial) (fun _ _ => rfl)) a_nil (fun _ => rfl)) (fun _ => rfl)) a_nil (fun _ => rfl)) (fun _ => rfl)) (fun _ => rfl)) (Nat.le_of_ble_eq_true rfl)) (fun _ _ _ h => h)
  have := @cut_len _ a_words (some (1 : Int)) (some (4 : Int))
  refine ss_when .rt (t_w (w_and (t_cmp c_eqI (e_callB (k_lenLo (xs := a_words) (f := dS)) G_P_saying_in_len A.b_len bt_len (a_cons (e_var V_P_saying_in_0 rfl) a_nil (fun _ => rfl)) (fun _ => rfl)) e_int rfl) (fun hb_8 => (w_and1 (t_cmp (c_eqDat (f := (dLo G.K dS)) (a := (cut a_words (some (1 : Int)) (some (4 : Int)))) (b := [("heard" : Str), ("not" : Str), ("from" : Str)]) (dat_lst dat_str) (by decide)) (en_lst (en_cut (f := dS) (xs := a_words) (e_var V_P_saying_in_0 rfl) (eo_some e_int) (eo_some e_int))) (en_lst (en_list (ds := [dS ("heard" : Str), dS ("not" : Str), dS ("from" : Str)]) (a_cons e_str (a_cons e_str (a_cons e_str a_nil (fun _ => rfl)) (fun _ => rfl)) (fun _ => rfl)) (Nat.le_of_ble_eq_true rfl))) rfl))))) (fun _ => nofun) (fun hc_10 => ?_) (fun hc_10 => ?_)
  ·
    exact ss_ret (e_tup (ds := (Sy.barred (nth a_words (0 : Int)) (nth a_words (4 : Int))).ds) (a_cons e_str (a_cons (e_nthL (f := dS) (xs := a_words) (e_var V_P_saying_in_0 rfl) e_int (by trivial) (fun _ _ => rfl)) (a_cons (e_nthL (f := dS) (xs := a_words) (e_var V_P_saying_in_0 rfl) e_int (by trivial) (fun _ _ => rfl)) a_nil (fun _ => rfl)) (fun _ => rfl)) (fun _ => rfl)) (Nat.le_of_ble_eq_true rfl)) (fun _ _ _ h => h)
  have := @cut_len _ a_words (some (1 : Int)) (some (4 : Int))
  refine ss_when .rt (t_w (w_and (t_cmp c_eqI (e_callB (k_lenLo (xs := a_words) (f := dS)) G_P_saying_in_len A.b_len bt_len (a_cons (e_var V_P_saying_in_0 rfl) a_nil (fun _ => rfl)) (fun _ => rfl)) e_int rfl) (fun hb_11 => (w_and (t_cmp (c_eqDat (f := (dLo G.K dS)) (a := (cut a_words (some (1 : Int)) (some (4 : Int)))) (b := [("told" : Str), ("nobody" : Str), ("from" : Str)]) (dat_lst dat_str) (by decide)) (en_lst (en_cut (f := dS) (xs := a_words) (e_var V_P_saying_in_0 rfl) (eo_some e_int) (eo_some e_int))) (en_lst (en_list (ds := [dS ("told" : Str), dS ("nobody" : Str), dS ("from" : Str)]) (a_cons e_str (a_cons e_str (a_cons e_str a_nil (fun _ => rfl)) (fun _ => rfl)) (fun _ => rfl)) (Nat.le_of_ble_eq_true rfl))) rfl) (fun hb_12 => (w_and1 (t_cmp c_eqS (e_nthL (f := dS) (xs := a_words) (e_var V_P_saying_in_0 rfl) e_int (by trivial) (fun _ _ => rfl)) e_str rfl))))))) (fun _ => nofun) (fun hc_14 => ?_) (fun hc_14 => ?_)
  ·
    exact ss_ret (e_tup (ds := (Sy.silent (nth a_words (0 : Int)) (m_P_hour_in (nth a_words (4 : Int))) (m_P_hour_in (nth a_words (6 : Int)))).ds) (a_cons e_str (a_cons (e_nthL (f := dS) (xs := a_words) (e_var V_P_saying_in_0 rfl) e_int (by trivial) (fun _ _ => rfl)) (a_cons (e_call (k_P_hour_in A) (by decide) G_P_saying_in_hour_in ⟨(nth a_words (4 : Int)), True.intro, rfl, rfl⟩ (a_cons (e_nthL (f := dS) (xs := a_words) (e_var V_P_saying_in_0 rfl) e_int (by trivial) (fun _ _ => rfl)) a_nil (fun _ => rfl)) (fun _ => rfl)) (a_cons (e_call (k_P_hour_in A) (by decide) G_P_saying_in_hour_in ⟨(nth a_words (6 : Int)), True.intro, rfl, rfl⟩ (a_cons (e_nthL (f := dS) (xs := a_words) (e_var V_P_saying_in_0 rfl) e_int (by trivial) (fun _ _ => rfl)) a_nil (fun _ => rfl)) (fun _ => rfl)) a_nil (fun _ => rfl)) (fun _ => rfl)) (fun _ => rfl)) (fun _ => rfl)) (Nat.le_of_ble_eq_true rfl)) (fun _ _ _ h => h)
  exact ss_ret e_none (fun _ _ _ h => h)
theorem k_P_saying_in {G : Cfg} (A : All G) : Callee G 2 "saying_in" (sp_P_saying_in G) := by
  refine A.d_P_saying_in.callee (N := N_P_saying_in) (ps := ["words"]) (scope_of rfl rfl rfl (by decide +kernel)) (fun ds O rk h => ?_) (fun _ _ _ _ _ _ us hl => match us, hl with | [_], _ => rfl) (fun ds O rk h => ?_)
  · obtain ⟨a_words, hp, rfl, rfl⟩ := h; rfl
  · obtain ⟨a_words, hp, rfl, rfl⟩ := h; exact ⟨_, _, _, _, b_P_saying_in A O a_words hp, rfl⟩
def N_P_talk_in : List Str := ["words"]
def C_P_talk_in : Sc := ⟨1, N_P_talk_in, defScope (top 35), true, true⟩
instance : Calm C_P_talk_in := ⟨rfl⟩
theorem V_P_talk_in_0 : Var C_P_talk_in 0 "words" := var_of (by decide +kernel)
theorem G_P_talk_in_hour_in : Glo C_P_talk_in "hour_in" := glo_of (by decide +kernel)
theorem G_P_talk_in_len : Glo C_P_talk_in "len" := glo_of (by decide +kernel)
theorem b_P_talk_in {G : Cfg} (A : All G) (O : Own) (a_words : (List Str)) (hpre : 1 ≤ a_words.length) : SS G C_P_talk_in (defBody (top 35)) (frame0 N_P_talk_in [(dLo G.K dS) a_words]) O (fnV (dO (dT4 G.K dI dS dS dS)) O) (.rt (m_P_talk_in a_words)) := by
  unfold m_P_talk_in
  refine ss_when .rt (t_cmp c_eqI (e_callB (k_lenLo (xs := a_words) (f := dS)) G_P_talk_in_len A.b_len bt_len (a_cons (e_var V_P_talk_in_0 rfl) a_nil (fun _ => rfl)) (fun _ => rfl)) e_int rfl) (fun _ => nofun) (fun hc_1 => ?_) (fun hc_1 => ?_)
  ·
    exact ss_ret (e_tup (a_cons (e_call (k_P_hour_in A) (by decide) G_P_talk_in_hour_in ⟨(nth a_words (1 : Int)), True.intro, rfl, rfl⟩ (a_cons (e_nthL (f := dS) (xs := a_words) (e_var V_P_talk_in_0 rfl) e_int (by trivial) (fun _ _ => rfl)) a_nil (fun _ => rfl)) (fun _ => rfl)) (a_cons (e_nthL (f := dS) (xs := a_words) (e_var V_P_talk_in_0 rfl) e_int (by trivial) (fun _ _ => rfl)) (a_cons (e_nthL (f := dS) (xs := a_words) (e_var V_P_talk_in_0 rfl) e_int (by trivial) (fun _ _ => rfl)) (a_cons e_str a_nil (fun _ => rfl)) (fun _ => rfl)) (fun _ => rfl)) (fun _ => rfl)) (Nat.le_of_ble_eq_true rfl)) (fun _ _ _ h => h)
  refine ss_when .rt (t_w (w_and (t_cmp c_eqI (e_callB (k_lenLo (xs := a_words) (f := dS)) G_P_talk_in_len A.b_len bt_len (a_cons (e_var V_P_talk_in_0 rfl) a_nil (fun _ => rfl)) (fun _ => rfl)) e_int rfl) (fun hb_2 => (w_and1 (t_cmp c_eqS (e_nthL (f := dS) (xs := a_words) (e_var V_P_talk_in_0 rfl) e_int (by trivial) (fun _ _ => rfl)) e_str rfl))))) (fun _ => nofun) (fun hc_4 => ?_) (fun hc_4 => ?_)
  ·
    exact ss_ret (e_tup (a_cons (e_call (k_P_hour_in A) (by decide) G_P_talk_in_hour_in ⟨(nth a_words (1 : Int)), True.intro, rfl, rfl⟩ (a_cons (e_nthL (f := dS) (xs := a_words) (e_var V_P_talk_in_0 rfl) e_int (by trivial) (fun _ _ => rfl)) a_nil (fun _ => rfl)) (fun _ => rfl)) (a_cons (e_nthL (f := dS) (xs := a_words) (e_var V_P_talk_in_0 rfl) e_int (by trivial) (fun _ _ => rfl)) (a_cons (e_nthL (f := dS) (xs := a_words) (e_var V_P_talk_in_0 rfl) e_int (by trivial) (fun _ _ => rfl)) (a_cons e_str a_nil (fun _ => rfl)) (fun _ => rfl)) (fun _ => rfl)) (fun _ => rfl)) (Nat.le_of_ble_eq_true rfl)) (fun _ _ _ h => h)
  exact ss_ret e_none (fun _ _ _ h => h)
theorem k_P_talk_in {G : Cfg} (A : All G) : Callee G 2 "talk_in" (sp_P_talk_in G) := by
  refine A.d_P_talk_in.callee (N := N_P_talk_in) (ps := ["words"]) (scope_of rfl rfl rfl (by decide +kernel)) (fun ds O rk h => ?_) (fun _ _ _ _ _ _ us hl => match us, hl with | [_], _ => rfl) (fun ds O rk h => ?_)
  · obtain ⟨a_words, hp, rfl, rfl⟩ := h; rfl
  · obtain ⟨a_words, hp, rfl, rfl⟩ := h; exact ⟨_, _, _, _, b_P_talk_in A O a_words hp, rfl⟩
def N_P_is_whole : List Str := ["thing"]
def C_P_is_whole : Sc := ⟨0, N_P_is_whole, defScope (top 10), true, true⟩
instance : Calm C_P_is_whole := ⟨rfl⟩
theorem V_P_is_whole_0 : Var C_P_is_whole 0 "thing" := var_of (by decide +kernel)
theorem G_P_is_whole_bool : Glo C_P_is_whole "bool" := glo_of (by decide +kernel)
theorem G_P_is_whole_int : Glo C_P_is_whole "int" := glo_of (by decide +kernel)
theorem G_P_is_whole_isinstance : Glo C_P_is_whole "isinstance" := glo_of (by decide +kernel)
theorem b_P_is_whole {G : Cfg} (A : All G) (O : Own) (a_thing : Va) : SS G C_P_is_whole (defBody (top 10)) (frame0 N_P_is_whole [(dA G.K) a_thing]) O (fnV dB O) (.rt (m_P_is_whole a_thing)) := by
  unfold m_P_is_whole
  exact ss_ret (e_and (e_callB (k_isA kit_int) G_P_is_whole_isinstance A.b_isinstance bt_isinstance (a_cons (e_var V_P_is_whole_0 rfl) (a_cons (e_tyname G_P_is_whole_int A.b_int bt_int) a_nil (fun _ => rfl)) (fun _ => rfl)) (fun _ => rfl)) (fun hb_1 => (e_bool1 (e_not (e_callB (k_isA kit_bool) G_P_is_whole_isinstance A.b_isinstance bt_isinstance (a_cons (e_var V_P_is_whole_0 rfl) (a_cons (e_tyname G_P_is_whole_bool A.b_bool bt_bool) a_nil (fun _ => rfl)) (fun _ => rfl)) (fun _ => rfl)))))) (fun _ _ _ h => h)
theorem k_P_is_whole {G : Cfg} (A : All G) : Callee G 1 "is_whole" (sp_P_is_whole G) := by
  refine A.d_P_is_whole.callee (N := N_P_is_whole) (ps := ["thing"]) (scope_of rfl rfl rfl (by decide +kernel)) (fun ds O rk h => ?_) (fun _ _ _ _ _ _ us hl => match us, hl with | [_], _ => rfl) (fun ds O rk h => ?_)
  · obtain ⟨a_thing, hp, rfl, rfl⟩ := h; rfl
  · obtain ⟨a_thing, hp, rfl, rfl⟩ := h; exact ⟨_, _, _, _, b_P_is_whole A O a_thing, rfl⟩
def N_P_is_hour : List Str := ["thing"]
def C_P_is_hour : Sc := ⟨1, N_P_is_hour, defScope (top 11), true, true⟩
instance : Calm C_P_is_hour := ⟨rfl⟩
theorem V_P_is_hour_0 : Var C_P_is_hour 0 "thing" := var_of (by decide +kernel)
theorem G_P_is_hour_LAST_HOUR : Glo C_P_is_hour "LAST_HOUR" := glo_of (by decide +kernel)
theorem G_P_is_hour_is_whole : Glo C_P_is_hour "is_whole" := glo_of (by decide +kernel)
theorem b_P_is_hour {G : Cfg} (A : All G) (O : Own) (a_thing : Va) : SS G C_P_is_hour (defBody (top 11)) (frame0 N_P_is_hour [(dA G.K) a_thing]) O (fnV dB O) (.rt (m_P_is_hour a_thing)) := by
  unfold m_P_is_hour
  exact ss_ret (e_and (e_call (k_P_is_whole A) (by decide) G_P_is_hour_is_whole ⟨a_thing, True.intro, rfl, rfl⟩ (a_cons (e_var V_P_is_hour_0 rfl) a_nil (fun _ => rfl)) (fun _ => rfl)) (fun hb_1 => (e_bool1 (e_chain c_le (fun _ => c_le) e_int (e_eq (e_var V_P_is_hour_0 rfl) (isy_int (whole_isA hb_1).1 (whole_isA hb_1).2)) (fun _ => (e_globI G_P_is_hour_LAST_HOUR A.c_LAST_HOUR)) (fun X _ _ _ _ _ h1 h2 h3 h4 h5 => pe_chain h1 h2 h3 h4 h5 (by with_unfolding_all rfl)))))) (fun _ _ _ h => h)
theorem k_P_is_hour {G : Cfg} (A : All G) : Callee G 2 "is_hour" (sp_P_is_hour G) := by
  refine A.d_P_is_hour.callee (N := N_P_is_hour) (ps := ["thing"]) (scope_of rfl rfl rfl (by decide +kernel)) (fun ds O rk h => ?_) (fun _ _ _ _ _ _ us hl => match us, hl with | [_], _ => rfl) (fun ds O rk h => ?_)
  · obtain ⟨a_thing, hp, rfl, rfl⟩ := h; rfl
  · obtain ⟨a_thing, hp, rfl, rfl⟩ := h; exact ⟨_, _, _, _, b_P_is_hour A O a_thing, rfl⟩
def N_P_are_two : List Str := ["one", "other", "persons"]
def C_P_are_two : Sc := ⟨0, N_P_are_two, defScope (top 23), true, true⟩
instance : Calm C_P_are_two := ⟨rfl⟩
theorem V_P_are_two_0 : Var C_P_are_two 0 "one" := var_of (by decide +kernel)
theorem V_P_are_two_1 : Var C_P_are_two 1 "other" := var_of (by decide +kernel)
theorem V_P_are_two_2 : Var C_P_are_two 2 "persons" := var_of (by decide +kernel)
theorem b_P_are_two {G : Cfg} (A : All G) (O : Own) (a_one : Str) (a_other : Str) (a_persons : (List Str)) : SS G C_P_are_two (defBody (top 23)) (frame0 N_P_are_two [dS a_one, dS a_other, (dLo G.K dS) a_persons]) O (fnV dB O) (.rt (m_P_are_two a_one a_other a_persons)) := by
  unfold m_P_are_two
  exact ss_ret (e_and (e_cmp c_inLS (e_var V_P_are_two_0 rfl) (e_var V_P_are_two_2 rfl) rfl) (fun hb_1 => (e_and (e_cmp c_inLS (e_var V_P_are_two_1 rfl) (e_var V_P_are_two_2 rfl) rfl) (fun hb_2 => (e_bool1 (e_cmp c_neS (e_var V_P_are_two_0 rfl) (e_var V_P_are_two_1 rfl) rfl)))))) (fun _ _ _ h => h)
theorem k_P_are_two {G : Cfg} (A : All G) : Callee G 1 "are_two" (sp_P_are_two G) := by
  refine A.d_P_are_two.callee (N := N_P_are_two) (ps := ["one", "other", "persons"]) (scope_of rfl rfl rfl (by decide +kernel)) (fun ds O rk h => ?_) (fun _ _ _ _ _ _ us hl => match us, hl with | [_, _, _], _ => rfl) (fun ds O rk h => ?_)
  · obtain ⟨a_one, a_other, a_persons, hp, rfl, rfl⟩ := h; rfl
  · obtain ⟨a_one, a_other, a_persons, hp, rfl, rfl⟩ := h; exact ⟨_, _, _, _, b_P_are_two A O a_one a_other a_persons, rfl⟩
def N_P_is_saying : List Str := ["thing", "persons"]
def C_P_is_saying : Sc := ⟨2, N_P_is_saying, defScope (top 25), true, true⟩
instance : Calm C_P_is_saying := ⟨rfl⟩
theorem V_P_is_saying_0 : Var C_P_is_saying 0 "thing" := var_of (by decide +kernel)
theorem V_P_is_saying_1 : Var C_P_is_saying 1 "persons" := var_of (by decide +kernel)
theorem G_P_is_saying_are_two : Glo C_P_is_saying "are_two" := glo_of (by decide +kernel)
theorem G_P_is_saying_is_hour : Glo C_P_is_saying "is_hour" := glo_of (by decide +kernel)
theorem G_P_is_saying_isinstance : Glo C_P_is_saying "isinstance" := glo_of (by decide +kernel)
theorem G_P_is_saying_len : Glo C_P_is_saying "len" := glo_of (by decide +kernel)
theorem G_P_is_saying_tuple : Glo C_P_is_saying "tuple" := glo_of (by decide +kernel)
theorem b_P_is_saying {G : Cfg} (A : All G) (O : Own) (a_thing : Sy) (a_persons : (List Str)) : SS G C_P_is_saying (defBody (top 25)) (frame0 N_P_is_saying [(dSy G.K) a_thing, (dLo G.K dS) a_persons]) O (fnV dB O) (.rt (m_P_is_saying a_thing a_persons)) := by
  unfold m_P_is_saying
  refine ss_when .rt (t_w (w_or (t_not (t_val (e_callB (k_isi (b := true) ty_tup (by decide +kernel)) G_P_is_saying_isinstance A.b_isinstance bt_isinstance (a_cons (e_var V_P_is_saying_0 rfl) (a_cons (e_tyname G_P_is_saying_tuple A.b_tuple bt_tuple) a_nil (fun _ => rfl)) (fun _ => rfl)) (fun _ => rfl)) (fun _ _ => rfl))) (fun hb_1 => (w_or (t_cmp c_lt (e_callB k_lenSy G_P_is_saying_len A.b_len bt_len (a_cons (e_var V_P_is_saying_0 rfl) a_nil (fun _ => rfl)) (fun _ => rfl)) e_int rfl) (fun hb_2 => (w_or1 (t_cmp c_ninLS (e_sy1 (e_var V_P_is_saying_0 rfl)) (e_var V_P_is_saying_1 rfl) rfl))))))) (fun _ => nofun) (fun hc_4 => ?_) (fun hc_4 => ?_)
  ·
    exact ss_ret e_bool (fun _ _ _ h => h)
  refine ss_when .rt (t_cmp c_eqS (e_sy0 (e_var V_P_is_saying_0 rfl)) e_str rfl) (fun _ => nofun) (fun hc_5 => ?_) (fun hc_5 => ?_)
  ·
    exact ss_ret (e_and (e_cmp c_eqI (e_callB k_lenSy G_P_is_saying_len A.b_len bt_len (a_cons (e_var V_P_is_saying_0 rfl) a_nil (fun _ => rfl)) (fun _ => rfl)) e_int rfl) (fun hb_6 => (e_and (e_call (k_P_is_hour A) (by decide) G_P_is_saying_is_hour ⟨(Va.int a_thing.h1), True.intro, rfl, rfl⟩ (a_cons (e_eq (e_sy2s hc_5 (e_var V_P_is_saying_0 rfl)) ((fun x => (dA_int x).symm) a_thing.h1)) a_nil (fun _ => rfl)) (fun _ => rfl)) (fun hb_7 => (e_and (e_call (k_P_is_hour A) (by decide) G_P_is_saying_is_hour ⟨(Va.int a_thing.h2), True.intro, rfl, rfl⟩ (a_cons (e_eq (e_sy3s hc_5 (e_var V_P_is_saying_0 rfl)) ((fun x => (dA_int x).symm) a_thing.h2)) a_nil (fun _ => rfl)) (fun _ => rfl)) (fun hb_8 => (e_bool1 (e_cmp c_le (e_sy2s hc_5 (e_var V_P_is_saying_0 rfl)) (e_sy3s hc_5 (e_var V_P_is_saying_0 rfl)) rfl)))))))) (fun _ _ _ h => h)
  refine ss_when .rt (t_cmp c_neI (e_callB k_lenSy G_P_is_saying_len A.b_len bt_len (a_cons (e_var V_P_is_saying_0 rfl) a_nil (fun _ => rfl)) (fun _ => rfl)) e_int rfl) (fun _ => nofun) (fun hc_10 => ?_) (fun hc_10 => ?_)
  ·
    exact ss_ret e_bool (fun _ _ _ h => h)
  refine ss_when .rt (t_cmp c_eqS (e_sy0 (e_var V_P_is_saying_0 rfl)) e_str rfl) (fun _ => nofun) (fun hc_11 => ?_) (fun hc_11 => ?_)
  ·
    exact ss_ret (e_call (k_P_is_hour A) (by decide) G_P_is_saying_is_hour ⟨(Va.int a_thing.h1), True.intro, rfl, rfl⟩ (a_cons (e_eq (e_sy2k hc_11 (e_var V_P_is_saying_0 rfl)) ((fun x => (dA_int x).symm) a_thing.h1)) a_nil (fun _ => rfl)) (fun _ => rfl)) (fun _ _ _ h => h)
  refine ss_when .rt (t_cmp c_eqS (e_sy0 (e_var V_P_is_saying_0 rfl)) e_str rfl) (fun _ => nofun) (fun hc_12 => ?_) (fun hc_12 => ?_)
  ·
    exact ss_ret (e_or (e_cmp (c_isO (f := dI) (o := a_thing.ho) notN_I) (e_sy2u hc_12 (e_var V_P_is_saying_0 rfl)) e_none rfl) (fun hb_13 => (e_bool1 (e_call (k_P_is_hour A) (by decide) G_P_is_saying_is_hour ⟨((vaO Va.int) a_thing.ho), True.intro, rfl, rfl⟩ (a_cons (e_eq (e_sy2u hc_12 (e_var V_P_is_saying_0 rfl)) ((any_opt (fun x => (dA_int x).symm)) a_thing.ho)) a_nil (fun _ => rfl)) (fun _ => rfl))))) (fun _ _ _ h => h)
  exact ss_ret (e_and (e_cmp c_eqS (e_sy0 (e_var V_P_is_saying_0 rfl)) e_str rfl) (fun hb_15 => (e_bool1 (e_call (k_P_are_two A) (by decide) G_P_is_saying_are_two ⟨a_thing.who, a_thing.other, a_persons, True.intro, rfl, rfl⟩ (a_cons (e_sy1 (e_var V_P_is_saying_0 rfl)) (a_cons (e_sy2b hb_15 (e_var V_P_is_saying_0 rfl)) (a_cons (e_var V_P_is_saying_1 rfl) a_nil (fun _ => rfl)) (fun _ => rfl)) (fun _ => rfl)) (fun _ => rfl))))) (fun _ _ _ h => h)
theorem k_P_is_saying {G : Cfg} (A : All G) : Callee G 3 "is_saying" (sp_P_is_saying G) := by
  refine A.d_P_is_saying.callee (N := N_P_is_saying) (ps := ["thing", "persons"]) (scope_of rfl rfl rfl (by decide +kernel)) (fun ds O rk h => ?_) (fun _ _ _ _ _ _ us hl => match us, hl with | [_, _], _ => rfl) (fun ds O rk h => ?_)
  · obtain ⟨a_thing, a_persons, hp, rfl, rfl⟩ := h; rfl
  · obtain ⟨a_thing, a_persons, hp, rfl, rfl⟩ := h; exact ⟨_, _, _, _, b_P_is_saying A O a_thing a_persons, rfl⟩
def N_P_is_name : List Str := ["thing", "sign"]
def C_P_is_name : Sc := ⟨0, N_P_is_name, defScope (top 12), true, true⟩
instance : Calm C_P_is_name := ⟨rfl⟩
theorem V_P_is_name_0 : Var C_P_is_name 0 "thing" := var_of (by decide +kernel)
theorem V_P_is_name_1 : Var C_P_is_name 1 "sign" := var_of (by decide +kernel)
theorem S_P_is_name_1 : Loca C_P_is_name 1 "sign" := loc_of (by decide +kernel)
theorem G_P_is_name_KEPT_WORDS : Glo C_P_is_name "KEPT_WORDS" := glo_of (by decide +kernel)
theorem G_P_is_name_LETTERS : Glo C_P_is_name "LETTERS" := glo_of (by decide +kernel)
theorem G_P_is_name_LONGEST : Glo C_P_is_name "LONGEST" := glo_of (by decide +kernel)
theorem G_P_is_name_isinstance : Glo C_P_is_name "isinstance" := glo_of (by decide +kernel)
theorem G_P_is_name_len : Glo C_P_is_name "len" := glo_of (by decide +kernel)
theorem G_P_is_name_str : Glo C_P_is_name "str" := glo_of (by decide +kernel)
theorem b_P_is_name {G : Cfg} (A : All G) (O : Own) (a_thing : Va) : SS G C_P_is_name (defBody (top 12)) (frame0 N_P_is_name [(dA G.K) a_thing]) O (fnV dB O) (.rt (m_P_is_name a_thing)) := by
  unfold m_P_is_name
  refine ss_when .rt (t_w (w_or (t_not (t_val (e_callB (k_isA kit_str) G_P_is_name_isinstance A.b_isinstance bt_isinstance (a_cons (e_var V_P_is_name_0 rfl) (a_cons (e_tyname G_P_is_name_str A.b_str bt_str) a_nil (fun _ => rfl)) (fun _ => rfl)) (fun _ => rfl)) (fun _ _ => rfl))) (fun hb_1 => (w_or (t_not (t_chain c_le (fun _ => c_le) e_int (e_callB k_lenS G_P_is_name_len A.b_len bt_len (a_cons (e_eq (e_var V_P_is_name_0 rfl) (isy_str (notF hb_1))) a_nil (fun _ => rfl)) (fun _ => rfl)) (fun _ => (e_globI G_P_is_name_LONGEST A.c_LONGEST)) (fun X _ _ _ _ _ h1 h2 h3 h4 h5 => pt_chain h1 h2 h3 h4 h5 (by with_unfolding_all rfl)))) (fun hb_2 => (w_or1 (t_cmp c_inTS (e_eq (e_var V_P_is_name_0 rfl) (isy_str (notF hb_1))) (e_globTS G_P_is_name_KEPT_WORDS A.c_KEPT_WORDS) rfl))))))) (fun _ => nofun) (fun hc_4 => ?_) (fun hc_4 => ?_)
  ·
    exact ss_ret e_bool (fun _ _ _ h => h)
  refine ss_loop (Γ := [some ((dA G.K) a_thing), none]) (df := dS) (s0 := ()) (fun s_5 : Unit => [some ((dA G.K) a_thing), none]) (fun (s_5 : Unit) (x_6 : Str) => ([some ((dA G.K) a_thing), none]).set 1 (some (dS x_6))) (fun s_5 : Unit => O) (ei_str (e_eq (e_var V_P_is_name_0 rfl) (isy_str (notF (orL hc_4))))) (by exact ⟨.inr rfl, .inl rfl, trivial⟩) rfl (fun _ => trivial) (fun s_5 x_6 => (tj_name S_P_is_name_1)) ?_ ?_ (fun _ _ => rfl)
  ·
    intro s_5 x_6 pre_7 post_8 hs_9 hf_10
    have hm_11 : x_6 ∈ (signs a_thing.asS) := by rw [hs_9]; simp
    have hpl_12 : pre_7.length < ((signs a_thing.asS)).length := by rw [hs_9, List.length_append, List.length_cons]; omega
    rw [signs_len] at hpl_12
    refine ss_if Ret.out (t_cmp (c_ninZ hm_11) (e_var V_P_is_name_1 rfl) (e_globS G_P_is_name_LETTERS A.c_LETTERS) rfl) (fun hc_13 => ?_) (fun hc_13 => ?_)
    ·
      exact ss_ret e_bool (fun _ _ _ h => h)
    ·
      exact ss_end (hold_end (by exact ⟨.inr rfl, .inl rfl, trivial⟩))
  intro s_5 he_L0
  exact ss_ret e_bool (fun _ _ _ h => h)
theorem k_P_is_name {G : Cfg} (A : All G) : Callee G 1 "is_name" (sp_P_is_name G) := by
  refine A.d_P_is_name.callee (N := N_P_is_name) (ps := ["thing"]) (scope_of rfl rfl rfl (by decide +kernel)) (fun ds O rk h => ?_) (fun _ _ _ _ _ _ us hl => match us, hl with | [_], _ => rfl) (fun ds O rk h => ?_)
  · obtain ⟨a_thing, hp, rfl, rfl⟩ := h; rfl
  · obtain ⟨a_thing, hp, rfl, rfl⟩ := h; exact ⟨_, _, _, _, b_P_is_name A O a_thing, rfl⟩
def N_P_is_tuple_of : List Str := ["thing", "many"]
def C_P_is_tuple_of : Sc := ⟨0, N_P_is_tuple_of, defScope (top 19), true, true⟩
instance : Calm C_P_is_tuple_of := ⟨rfl⟩
theorem V_P_is_tuple_of_0 : Var C_P_is_tuple_of 0 "thing" := var_of (by decide +kernel)
theorem V_P_is_tuple_of_1 : Var C_P_is_tuple_of 1 "many" := var_of (by decide +kernel)
theorem G_P_is_tuple_of_isinstance : Glo C_P_is_tuple_of "isinstance" := glo_of (by decide +kernel)
theorem G_P_is_tuple_of_len : Glo C_P_is_tuple_of "len" := glo_of (by decide +kernel)
theorem G_P_is_tuple_of_tuple : Glo C_P_is_tuple_of "tuple" := glo_of (by decide +kernel)
theorem b_P_is_tuple_of {G : Cfg} (A : All G) (O : Own) (a_thing : Va) (a_many : Int) : SS G C_P_is_tuple_of (defBody (top 19)) (frame0 N_P_is_tuple_of [(dA G.K) a_thing, dI a_many]) O (fnV dB O) (.rt (m_P_is_tuple_of a_thing a_many)) := by
  unfold m_P_is_tuple_of
  exact ss_ret (e_and (e_callB (k_isA kit_tuple) G_P_is_tuple_of_isinstance A.b_isinstance bt_isinstance (a_cons (e_var V_P_is_tuple_of_0 rfl) (a_cons (e_tyname G_P_is_tuple_of_tuple A.b_tuple bt_tuple) a_nil (fun _ => rfl)) (fun _ => rfl)) (fun _ => rfl)) (fun hb_1 => (e_bool1 (e_cmp c_eqI (e_callB (k_lenVt (xs := a_thing.asT) (f := (dA G.K))) G_P_is_tuple_of_len A.b_len bt_len (a_cons (e_eq (e_var V_P_is_tuple_of_0 rfl) (isy_tup hb_1)) a_nil (fun _ => rfl)) (fun _ => rfl)) (e_var V_P_is_tuple_of_1 rfl) rfl)))) (fun _ _ _ h => h)
theorem k_P_is_tuple_of {G : Cfg} (A : All G) : Callee G 1 "is_tuple_of" (sp_P_is_tuple_of G) := by
  refine A.d_P_is_tuple_of.callee (N := N_P_is_tuple_of) (ps := ["thing", "many"]) (scope_of rfl rfl rfl (by decide +kernel)) (fun ds O rk h => ?_) (fun _ _ _ _ _ _ us hl => match us, hl with | [_, _], _ => rfl) (fun ds O rk h => ?_)
  · obtain ⟨a_thing, a_many, hp, rfl, rfl⟩ := h; rfl
  · obtain ⟨a_thing, a_many, hp, rfl, rfl⟩ := h; exact ⟨_, _, _, _, b_P_is_tuple_of A O a_thing a_many, rfl⟩
def N_P_is_tale : List Str := ["thing", "word"]
def C_P_is_tale : Sc := ⟨1, N_P_is_tale, defScope (top 21), true, true⟩
instance : Calm C_P_is_tale := ⟨rfl⟩
theorem V_P_is_tale_0 : Var C_P_is_tale 0 "thing" := var_of (by decide +kernel)
theorem V_P_is_tale_1 : Var C_P_is_tale 1 "word" := var_of (by decide +kernel)
theorem S_P_is_tale_1 : Loca C_P_is_tale 1 "word" := loc_of (by decide +kernel)
theorem G_P_is_tale_MOST_WORDS : Glo C_P_is_tale "MOST_WORDS" := glo_of (by decide +kernel)
theorem G_P_is_tale_is_name : Glo C_P_is_tale "is_name" := glo_of (by decide +kernel)
theorem G_P_is_tale_isinstance : Glo C_P_is_tale "isinstance" := glo_of (by decide +kernel)
theorem G_P_is_tale_len : Glo C_P_is_tale "len" := glo_of (by decide +kernel)
theorem G_P_is_tale_tuple : Glo C_P_is_tale "tuple" := glo_of (by decide +kernel)
theorem b_P_is_tale {G : Cfg} (A : All G) (O : Own) (a_thing : (List Str)) : SS G C_P_is_tale (defBody (top 21)) (frame0 N_P_is_tale [(dVt G.K dS) a_thing]) O (fnV dB O) (.rt (m_P_is_tale a_thing)) := by
  unfold m_P_is_tale
  refine ss_when .rt (t_w (w_or (t_not (t_val (e_callB (k_isi (b := true) ty_tup (by decide +kernel)) G_P_is_tale_isinstance A.b_isinstance bt_isinstance (a_cons (e_var V_P_is_tale_0 rfl) (a_cons (e_tyname G_P_is_tale_tuple A.b_tuple bt_tuple) a_nil (fun _ => rfl)) (fun _ => rfl)) (fun _ => rfl)) (fun _ _ => rfl))) (fun hb_1 => (w_or1 (t_not (t_chain c_le (fun _ => c_le) e_int (e_callB (k_lenVt (xs := a_thing) (f := dS)) G_P_is_tale_len A.b_len bt_len (a_cons (e_var V_P_is_tale_0 rfl) a_nil (fun _ => rfl)) (fun _ => rfl)) (fun _ => (e_globI G_P_is_tale_MOST_WORDS A.c_MOST_WORDS)) (fun X _ _ _ _ _ h1 h2 h3 h4 h5 => pt_chain h1 h2 h3 h4 h5 (by with_unfolding_all rfl)))))))) (fun _ => nofun) (fun hc_3 => ?_) (fun hc_3 => ?_)
  ·
    exact ss_ret e_bool (fun _ _ _ h => h)
  refine ss_loop (Γ := [some ((dVt G.K dS) a_thing), none]) (df := dS) (s0 := ()) (fun s_4 : Unit => [some ((dVt G.K dS) a_thing), none]) (fun (s_4 : Unit) (x_5 : Str) => ([some ((dVt G.K dS) a_thing), none]).set 1 (some (dS x_5))) (fun s_4 : Unit => O) (ei_tup (e_var V_P_is_tale_0 rfl)) (by exact ⟨.inr rfl, .inl rfl, trivial⟩) rfl (fun _ => trivial) (fun s_4 x_5 => (tj_name S_P_is_tale_1)) ?_ ?_ (fun _ _ => rfl)
  ·
    intro s_4 x_5 pre_6 post_7 hs_8 hf_9
    have hm_10 : x_5 ∈ a_thing := by rw [hs_8]; simp
    have hpl_11 : pre_6.length < (a_thing).length := by rw [hs_8, List.length_append, List.length_cons]; omega
    refine ss_if Ret.out (t_not (t_val (e_call (k_P_is_name A) (by decide) G_P_is_tale_is_name ⟨(Va.str x_5), True.intro, rfl, rfl⟩ (a_cons (e_eq (e_var V_P_is_tale_1 rfl) ((fun x => (dA_str x).symm) x_5)) a_nil (fun _ => rfl)) (fun _ => rfl)) (fun _ _ => rfl))) (fun hc_12 => ?_) (fun hc_12 => ?_)
    ·
      exact ss_ret e_bool (fun _ _ _ h => h)
    ·
      exact ss_end (hold_end (by exact ⟨.inr rfl, .inl rfl, trivial⟩))
  intro s_4 he_L0
  exact ss_ret e_bool (fun _ _ _ h => h)
theorem k_P_is_tale {G : Cfg} (A : All G) : Callee G 2 "is_tale" (sp_P_is_tale G) := by
  refine A.d_P_is_tale.callee (N := N_P_is_tale) (ps := ["thing"]) (scope_of rfl rfl rfl (by decide +kernel)) (fun ds O rk h => ?_) (fun _ _ _ _ _ _ us hl => match us, hl with | [_], _ => rfl) (fun ds O rk h => ?_)
  · obtain ⟨a_thing, hp, rfl, rfl⟩ := h; rfl
  · obtain ⟨a_thing, hp, rfl, rfl⟩ := h; exact ⟨_, _, _, _, b_P_is_tale A O a_thing, rfl⟩
def N_P_is_sight : List Str := ["thing", "persons"]
def C_P_is_sight : Sc := ⟨2, N_P_is_sight, defScope (top 22), true, true⟩
instance : Calm C_P_is_sight := ⟨rfl⟩
theorem V_P_is_sight_0 : Var C_P_is_sight 0 "thing" := var_of (by decide +kernel)
theorem V_P_is_sight_1 : Var C_P_is_sight 1 "persons" := var_of (by decide +kernel)
theorem G_P_is_sight_is_hour : Glo C_P_is_sight "is_hour" := glo_of (by decide +kernel)
theorem G_P_is_sight_is_tale : Glo C_P_is_sight "is_tale" := glo_of (by decide +kernel)
theorem G_P_is_sight_is_tuple_of : Glo C_P_is_sight "is_tuple_of" := glo_of (by decide +kernel)
theorem b_P_is_sight {G : Cfg} (A : All G) (O : Own) (a_thing : (Str × Int × (List Str))) (a_persons : (List Str)) : SS G C_P_is_sight (defBody (top 22)) (frame0 N_P_is_sight [(dT3 G.K dS dI (dVt G.K dS)) a_thing, (dLo G.K dS) a_persons]) O (fnV dB O) (.rt (m_P_is_sight a_thing a_persons)) := by
  unfold m_P_is_sight
  refine ss_when .rt (t_not (t_val (e_call (k_P_is_tuple_of A) (by decide) G_P_is_sight_is_tuple_of ⟨((fun x => Va.tup [Va.str x.1, Va.int x.2.1, (fun xs => Va.tup (xs.map Va.str)) x.2.2]) a_thing), (3 : Int), True.intro, rfl, rfl⟩ (a_cons (e_eq (e_var V_P_is_sight_0 rfl) ((any_t3 (fun x => (dA_str x).symm) (fun x => (dA_int x).symm) (any_tup (fun x => (dA_str x).symm))) a_thing)) (a_cons e_int a_nil (fun _ => rfl)) (fun _ => rfl)) (fun _ => rfl)) (fun _ _ => rfl))) (fun _ => nofun) (fun hc_1 => ?_) (fun hc_1 => ?_)
  ·
    exact ss_ret e_bool (fun _ _ _ h => h)
  exact ss_ret (e_and (e_cmp c_inLS (e_ixT (i := (0 : Int)) rfl (e_var V_P_is_sight_0 rfl) e_int (fun _ _ => rfl)) (e_var V_P_is_sight_1 rfl) rfl) (fun hb_2 => (e_and (e_call (k_P_is_hour A) (by decide) G_P_is_sight_is_hour ⟨(Va.int a_thing.2.1), True.intro, rfl, rfl⟩ (a_cons (e_eq (e_ixT (i := (1 : Int)) rfl (e_var V_P_is_sight_0 rfl) e_int (fun _ _ => rfl)) ((fun x => (dA_int x).symm) a_thing.2.1)) a_nil (fun _ => rfl)) (fun _ => rfl)) (fun hb_3 => (e_bool1 (e_call (k_P_is_tale A) (by decide) G_P_is_sight_is_tale ⟨a_thing.2.2, True.intro, rfl, rfl⟩ (a_cons (e_ixT (i := (2 : Int)) rfl (e_var V_P_is_sight_0 rfl) e_int (fun _ _ => rfl)) a_nil (fun _ => rfl)) (fun _ => rfl))))))) (fun _ _ _ h => h)
theorem k_P_is_sight {G : Cfg} (A : All G) : Callee G 3 "is_sight" (sp_P_is_sight G) := by
  refine A.d_P_is_sight.callee (N := N_P_is_sight) (ps := ["thing", "persons"]) (scope_of rfl rfl rfl (by decide +kernel)) (fun ds O rk h => ?_) (fun _ _ _ _ _ _ us hl => match us, hl with | [_, _], _ => rfl) (fun ds O rk h => ?_)
  · obtain ⟨a_thing, a_persons, hp, rfl, rfl⟩ := h; rfl
  · obtain ⟨a_thing, a_persons, hp, rfl, rfl⟩ := h; exact ⟨_, _, _, _, b_P_is_sight A O a_thing a_persons, rfl⟩
def N_P_is_talk : List Str := ["thing", "persons"]
def C_P_is_talk : Sc := ⟨2, N_P_is_talk, defScope (top 24), true, true⟩
instance : Calm C_P_is_talk := ⟨rfl⟩
theorem V_P_is_talk_0 : Var C_P_is_talk 0 "thing" := var_of (by decide +kernel)
theorem V_P_is_talk_1 : Var C_P_is_talk 1 "persons" := var_of (by decide +kernel)
theorem G_P_is_talk_are_two : Glo C_P_is_talk "are_two" := glo_of (by decide +kernel)
theorem G_P_is_talk_is_hour : Glo C_P_is_talk "is_hour" := glo_of (by decide +kernel)
theorem G_P_is_talk_is_tuple_of : Glo C_P_is_talk "is_tuple_of" := glo_of (by decide +kernel)
theorem b_P_is_talk {G : Cfg} (A : All G) (O : Own) (a_thing : (Int × Str × Str × Str)) (a_persons : (List Str)) : SS G C_P_is_talk (defBody (top 24)) (frame0 N_P_is_talk [(dT4 G.K dI dS dS dS) a_thing, (dLo G.K dS) a_persons]) O (fnV dB O) (.rt (m_P_is_talk a_thing a_persons)) := by
  unfold m_P_is_talk
  refine ss_when .rt (t_not (t_val (e_call (k_P_is_tuple_of A) (by decide) G_P_is_talk_is_tuple_of ⟨((fun x => Va.tup [Va.int x.1, Va.str x.2.1, Va.str x.2.2.1, Va.str x.2.2.2]) a_thing), (4 : Int), True.intro, rfl, rfl⟩ (a_cons (e_eq (e_var V_P_is_talk_0 rfl) ((any_t4 (fun x => (dA_int x).symm) (fun x => (dA_str x).symm) (fun x => (dA_str x).symm) (fun x => (dA_str x).symm)) a_thing)) (a_cons e_int a_nil (fun _ => rfl)) (fun _ => rfl)) (fun _ => rfl)) (fun _ _ => rfl))) (fun _ => nofun) (fun hc_1 => ?_) (fun hc_1 => ?_)
  ·
    exact ss_ret e_bool (fun _ _ _ h => h)
  exact ss_ret (e_and (e_call (k_P_is_hour A) (by decide) G_P_is_talk_is_hour ⟨(Va.int a_thing.1), True.intro, rfl, rfl⟩ (a_cons (e_eq (e_ixT (i := (0 : Int)) rfl (e_var V_P_is_talk_0 rfl) e_int (fun _ _ => rfl)) ((fun x => (dA_int x).symm) a_thing.1)) a_nil (fun _ => rfl)) (fun _ => rfl)) (fun hb_2 => (e_and (e_call (k_P_are_two A) (by decide) G_P_is_talk_are_two ⟨a_thing.2.1, a_thing.2.2.1, a_persons, True.intro, rfl, rfl⟩ (a_cons (e_ixT (i := (1 : Int)) rfl (e_var V_P_is_talk_0 rfl) e_int (fun _ _ => rfl)) (a_cons (e_ixT (i := (2 : Int)) rfl (e_var V_P_is_talk_0 rfl) e_int (fun _ _ => rfl)) (a_cons (e_var V_P_is_talk_1 rfl) a_nil (fun _ => rfl)) (fun _ => rfl)) (fun _ => rfl)) (fun _ => rfl)) (fun hb_3 => (e_bool1 (e_cmp c_inTS (e_ixT (i := (3 : Int)) rfl (e_var V_P_is_talk_0 rfl) e_int (fun _ _ => rfl)) (e_tup (ds := [dS ("both" : Str), dS ("one" : Str)]) (a_cons e_str (a_cons e_str a_nil (fun _ => rfl)) (fun _ => rfl)) (Nat.le_of_ble_eq_true rfl)) rfl)))))) (fun _ _ _ h => h)
theorem k_P_is_talk {G : Cfg} (A : All G) : Callee G 3 "is_talk" (sp_P_is_talk G) := by
  refine A.d_P_is_talk.callee (N := N_P_is_talk) (ps := ["thing", "persons"]) (scope_of rfl rfl rfl (by decide +kernel)) (fun ds O rk h => ?_) (fun _ _ _ _ _ _ us hl => match us, hl with | [_, _], _ => rfl) (fun ds O rk h => ?_)
  · obtain ⟨a_thing, a_persons, hp, rfl, rfl⟩ := h; rfl
  · obtain ⟨a_thing, a_persons, hp, rfl, rfl⟩ := h; exact ⟨_, _, _, _, b_P_is_talk A O a_thing a_persons, rfl⟩
def N_P_told_by_at_0 : List Str := ["words", "kind", "persons", "one"]
def C_P_told_by_at_0 : Sc := ⟨3, N_P_told_by_at_0, defScope (top 36), true, true⟩
instance : Calm C_P_told_by_at_0 := ⟨rfl⟩
theorem V_P_told_by_at_0_0 : Var C_P_told_by_at_0 0 "words" := var_of (by decide +kernel)
theorem V_P_told_by_at_0_1 : Var C_P_told_by_at_0 1 "kind" := var_of (by decide +kernel)
theorem V_P_told_by_at_0_2 : Var C_P_told_by_at_0 2 "persons" := var_of (by decide +kernel)
theorem G_P_told_by_at_0_is_name : Glo C_P_told_by_at_0 "is_name" := glo_of (by decide +kernel)
theorem G_P_told_by_at_0_len : Glo C_P_told_by_at_0 "len" := glo_of (by decide +kernel)
theorem b_P_told_by_at_0 {G : Cfg} (A : All G) (O : Own) (a_words : (List Str)) (a_kind : Int) (a_persons : (List Str)) (hpre : 1 ≤ a_words.length ∧ a_kind = (0 : Int)) : SS G C_P_told_by_at_0 (defBody (top 36)) (frame0 N_P_told_by_at_0 [(dLo G.K dS) a_words, dI a_kind, (dLo G.K dS) a_persons]) O (fnV (dO dS) O) (.rt (m_P_told_by_at_0 a_words a_kind a_persons)) := by
  unfold m_P_told_by_at_0
  have hwl := hpre.1
  refine ss_gone (t_eq (t_cmp c_eqI (e_var V_P_told_by_at_0_1 rfl) e_int rfl) (b := (decide (a_kind = (0 : Int)))) (by rw [hpre.2]; decide)) ?_
  refine ss_when .rt (t_w (w_and (t_cmp c_eqI (e_callB (k_lenLo (xs := a_words) (f := dS)) G_P_told_by_at_0_len A.b_len bt_len (a_cons (e_var V_P_told_by_at_0_0 rfl) a_nil (fun _ => rfl)) (fun _ => rfl)) e_int rfl) (fun hb_1 => (w_and (t_val (e_call (k_P_is_name A) (by decide) G_P_told_by_at_0_is_name ⟨(Va.str (nth a_words (1 : Int))), True.intro, rfl, rfl⟩ (a_cons (e_eq (e_nthL (f := dS) (xs := a_words) (e_var V_P_told_by_at_0_0 rfl) e_int (by trivial) (fun _ _ => rfl)) ((fun x => (dA_str x).symm) (nth a_words (1 : Int)))) a_nil (fun _ => rfl)) (fun _ => rfl)) (fun _ _ => rfl)) (fun hb_2 => (w_and1 (t_cmp c_ninLS (e_nthL (f := dS) (xs := a_words) (e_var V_P_told_by_at_0_0 rfl) e_int (by trivial) (fun _ _ => rfl)) (e_var V_P_told_by_at_0_2 rfl) rfl))))))) (fun _ => nofun) (fun hc_4 => ?_) (fun hc_4 => ?_)
  ·
    exact ss_ret (e_nthL (f := dS) (xs := a_words) (e_var V_P_told_by_at_0_0 rfl) e_int (by trivial) (fun _ _ => rfl)) (fun _ _ _ h => h)
  exact ss_ret e_none (fun _ _ _ h => h)
theorem k_P_told_by_at_0 {G : Cfg} (A : All G) : Callee G 4 "told_by" (sp_P_told_by_at_0 G) := by
  refine A.d_P_told_by.callee (N := N_P_told_by_at_0) (ps := ["words", "kind", "persons"]) (scope_of rfl rfl rfl (by decide +kernel)) (fun ds O rk h => ?_) (fun _ _ _ _ _ _ us hl => match us, hl with | [_, _, _], _ => rfl) (fun ds O rk h => ?_)
  · obtain ⟨a_words, a_kind, a_persons, hp, rfl, rfl⟩ := h; rfl
  · obtain ⟨a_words, a_kind, a_persons, hp, rfl, rfl⟩ := h; exact ⟨_, _, _, _, b_P_told_by_at_0 A O a_words a_kind a_persons hp, rfl⟩
def N_P_told_by_at_1 : List Str := ["words", "kind", "persons", "one"]
def C_P_told_by_at_1 : Sc := ⟨3, N_P_told_by_at_1, defScope (top 36), true, true⟩
instance : Calm C_P_told_by_at_1 := ⟨rfl⟩
theorem V_P_told_by_at_1_0 : Var C_P_told_by_at_1 0 "words" := var_of (by decide +kernel)
theorem V_P_told_by_at_1_1 : Var C_P_told_by_at_1 1 "kind" := var_of (by decide +kernel)
theorem V_P_told_by_at_1_2 : Var C_P_told_by_at_1 2 "persons" := var_of (by decide +kernel)
theorem V_P_told_by_at_1_3 : Var C_P_told_by_at_1 3 "one" := var_of (by decide +kernel)
theorem S_P_told_by_at_1_3 : Loca C_P_told_by_at_1 3 "one" := loc_of (by decide +kernel)
theorem G_P_told_by_at_1_hour_in : Glo C_P_told_by_at_1 "hour_in" := glo_of (by decide +kernel)
theorem G_P_told_by_at_1_is_sight : Glo C_P_told_by_at_1 "is_sight" := glo_of (by decide +kernel)
theorem G_P_told_by_at_1_len : Glo C_P_told_by_at_1 "len" := glo_of (by decide +kernel)
theorem G_P_told_by_at_1_tuple : Glo C_P_told_by_at_1 "tuple" := glo_of (by decide +kernel)
theorem b_P_told_by_at_1 {G : Cfg} (A : All G) (O : Own) (a_words : (List Str)) (a_kind : Int) (a_persons : (List Str)) (hpre : 1 ≤ a_words.length ∧ a_kind = (1 : Int)) : SS G C_P_told_by_at_1 (defBody (top 36)) (frame0 N_P_told_by_at_1 [(dLo G.K dS) a_words, dI a_kind, (dLo G.K dS) a_persons]) O (fnV (dO (dT3 G.K dS dI (dVt G.K dS))) O) (.rt (m_P_told_by_at_1 a_words a_kind a_persons)) := by
  unfold m_P_told_by_at_1
  have hwl := hpre.1
  refine ss_skip (t_eq (t_cmp c_eqI (e_var V_P_told_by_at_1_1 rfl) e_int rfl) (b := (decide (a_kind = (0 : Int)))) (by rw [hpre.2]; decide)) ?_
  refine ss_gone (t_eq (t_cmp c_eqI (e_var V_P_told_by_at_1_1 rfl) e_int rfl) (b := (decide (a_kind = (1 : Int)))) (by rw [hpre.2]; decide)) ?_
  refine ss_when .rt (t_cmp c_lt (e_callB (k_lenLo (xs := a_words) (f := dS)) G_P_told_by_at_1_len A.b_len bt_len (a_cons (e_var V_P_told_by_at_1_0 rfl) a_nil (fun _ => rfl)) (fun _ => rfl)) e_int rfl) (fun _ => nofun) (fun hc_1 => ?_) (fun hc_1 => ?_)
  ·
    exact ss_ret e_none (fun _ _ _ h => h)
  have := @cut_len _ a_words (some (3 : Int)) none
  refine ss_asg (f := (dT3 G.K dS dI (dVt G.K dS))) .rt S_P_told_by_at_1_3 (fun _ => rfl) (e_tup (a_cons (e_nthL (f := dS) (xs := a_words) (e_var V_P_told_by_at_1_0 rfl) e_int (by trivial) (fun _ _ => rfl)) (a_cons (e_call (k_P_hour_in A) (by decide) G_P_told_by_at_1_hour_in ⟨(nth a_words (2 : Int)), True.intro, rfl, rfl⟩ (a_cons (e_nthL (f := dS) (xs := a_words) (e_var V_P_told_by_at_1_0 rfl) e_int (by trivial) (fun _ _ => rfl)) a_nil (fun _ => rfl)) (fun _ => rfl)) (a_cons (e_callT k_tupL G_P_told_by_at_1_tuple A.b_tuple bt_tuple (a_cons (en_lst (en_cut (f := dS) (xs := a_words) (e_var V_P_told_by_at_1_0 rfl) (eo_some e_int) eo_none)) a_nil (fun _ => rfl)) (fun _ => rfl)) a_nil (fun _ => rfl)) (fun _ => rfl)) (fun _ => rfl)) (Nat.le_of_ble_eq_true rfl)) ?_
  intro one_2 hone_2
  exact ss_ret (e_ifv (f := (dO (dT3 G.K dS dI (dVt G.K dS)))) (x := (some one_2)) (y := (none : (Option (Str × Int × (List Str))))) (t_val (e_call (k_P_is_sight A) (by decide) G_P_told_by_at_1_is_sight ⟨one_2, a_persons, True.intro, rfl, rfl⟩ (a_cons (e_var V_P_told_by_at_1_3 rfl) (a_cons (e_var V_P_told_by_at_1_2 rfl) a_nil (fun _ => rfl)) (fun _ => rfl)) (fun _ => rfl)) (fun _ _ => rfl)) (fun _ => (e_var V_P_told_by_at_1_3 rfl)) (fun _ => e_none)) (fun _ _ _ h => h)
theorem k_P_told_by_at_1 {G : Cfg} (A : All G) : Callee G 4 "told_by" (sp_P_told_by_at_1 G) := by
  refine A.d_P_told_by.callee (N := N_P_told_by_at_1) (ps := ["words", "kind", "persons"]) (scope_of rfl rfl rfl (by decide +kernel)) (fun ds O rk h => ?_) (fun _ _ _ _ _ _ us hl => match us, hl with | [_, _, _], _ => rfl) (fun ds O rk h => ?_)
  · obtain ⟨a_words, a_kind, a_persons, hp, rfl, rfl⟩ := h; rfl
  · obtain ⟨a_words, a_kind, a_persons, hp, rfl, rfl⟩ := h; exact ⟨_, _, _, _, b_P_told_by_at_1 A O a_words a_kind a_persons hp, rfl⟩
def N_P_is_talk_at_n : List Str := ["thing", "persons"]
def C_P_is_talk_at_n : Sc := ⟨2, N_P_is_talk_at_n, defScope (top 24), true, true⟩
instance : Calm C_P_is_talk_at_n := ⟨rfl⟩
theorem V_P_is_talk_at_n_0 : Var C_P_is_talk_at_n 0 "thing" := var_of (by decide +kernel)
theorem G_P_is_talk_at_n_is_tuple_of : Glo C_P_is_talk_at_n "is_tuple_of" := glo_of (by decide +kernel)
theorem b_P_is_talk_at_n {G : Cfg} (A : All G) (O : Own) (a_thing : Unit) (a_persons : (List Str)) : SS G C_P_is_talk_at_n (defBody (top 24)) (frame0 N_P_is_talk_at_n [dU a_thing, (dLo G.K dS) a_persons]) O (fnV dB O) (.rt (m_P_is_talk_at_n a_thing a_persons)) := by
  unfold m_P_is_talk_at_n
  refine ss_gone (t_eq (t_not (t_val (e_call (k_P_is_tuple_of A) (by decide) G_P_is_talk_at_n_is_tuple_of ⟨((fun _ => Va.non) a_thing), (4 : Int), True.intro, rfl, rfl⟩ (a_cons (e_eq (e_var V_P_is_talk_at_n_0 rfl) ((fun _ => dA_non.symm) ())) (a_cons e_int a_nil (fun _ => rfl)) (fun _ => rfl)) (fun _ => rfl)) (fun _ _ => rfl))) (b := (!(m_P_is_tuple_of ((fun _ => Va.non) a_thing) (4 : Int)))) (by rfl)) ?_
  exact ss_ret e_bool (fun _ _ _ h => h)
theorem k_P_is_talk_at_n {G : Cfg} (A : All G) : Callee G 3 "is_talk" (sp_P_is_talk_at_n G) := by
  refine A.d_P_is_talk.callee (N := N_P_is_talk_at_n) (ps := ["thing", "persons"]) (scope_of rfl rfl rfl (by decide +kernel)) (fun ds O rk h => ?_) (fun _ _ _ _ _ _ us hl => match us, hl with | [_, _], _ => rfl) (fun ds O rk h => ?_)
  · obtain ⟨a_thing, a_persons, hp, rfl, rfl⟩ := h; rfl
  · obtain ⟨a_thing, a_persons, hp, rfl, rfl⟩ := h; exact ⟨_, _, _, _, b_P_is_talk_at_n A O a_thing a_persons, rfl⟩
def N_P_told_by_at_2 : List Str := ["words", "kind", "persons", "one"]
def C_P_told_by_at_2 : Sc := ⟨3, N_P_told_by_at_2, defScope (top 36), true, true⟩
instance : Calm C_P_told_by_at_2 := ⟨rfl⟩
theorem V_P_told_by_at_2_0 : Var C_P_told_by_at_2 0 "words" := var_of (by decide +kernel)
theorem V_P_told_by_at_2_1 : Var C_P_told_by_at_2 1 "kind" := var_of (by decide +kernel)
theorem V_P_told_by_at_2_2 : Var C_P_told_by_at_2 2 "persons" := var_of (by decide +kernel)
theorem V_P_told_by_at_2_3 : Var C_P_told_by_at_2 3 "one" := var_of (by decide +kernel)
theorem S_P_told_by_at_2_3 : Loca C_P_told_by_at_2 3 "one" := loc_of (by decide +kernel)
theorem G_P_told_by_at_2_is_talk : Glo C_P_told_by_at_2 "is_talk" := glo_of (by decide +kernel)
theorem G_P_told_by_at_2_talk_in : Glo C_P_told_by_at_2 "talk_in" := glo_of (by decide +kernel)
theorem b_P_told_by_at_2 {G : Cfg} (A : All G) (O : Own) (a_words : (List Str)) (a_kind : Int) (a_persons : (List Str)) (hpre : 1 ≤ a_words.length ∧ a_kind = (2 : Int)) : SS G C_P_told_by_at_2 (defBody (top 36)) (frame0 N_P_told_by_at_2 [(dLo G.K dS) a_words, dI a_kind, (dLo G.K dS) a_persons]) O (fnV (dO (dT4 G.K dI dS dS dS)) O) (.rt (m_P_told_by_at_2 a_words a_kind a_persons)) := by
  unfold m_P_told_by_at_2
  have hwl := hpre.1
  refine ss_skip (t_eq (t_cmp c_eqI (e_var V_P_told_by_at_2_1 rfl) e_int rfl) (b := (decide (a_kind = (0 : Int)))) (by rw [hpre.2]; decide)) ?_
  refine ss_skip (t_eq (t_cmp c_eqI (e_var V_P_told_by_at_2_1 rfl) e_int rfl) (b := (decide (a_kind = (1 : Int)))) (by rw [hpre.2]; decide)) ?_
  refine ss_gone (t_eq (t_cmp c_eqI (e_var V_P_told_by_at_2_1 rfl) e_int rfl) (b := (decide (a_kind = (2 : Int)))) (by rw [hpre.2]; decide)) ?_
  refine ss_asg (f := (dO (dT4 G.K dI dS dS dS))) .rt S_P_told_by_at_2_3 (fun _ => rfl) (e_call (k_P_talk_in A) (by decide) G_P_told_by_at_2_talk_in ⟨a_words, (by trivial), rfl, rfl⟩ (a_cons (e_var V_P_told_by_at_2_0 rfl) a_nil (fun _ => rfl)) (fun _ => rfl)) ?_
  intro one_1 hone_1
  refine ss_opt (Γ := fun z_ : (Option (Int × Str × Str × Str)) => [some ((dLo G.K dS) a_words), some (dI a_kind), some ((dLo G.K dS) a_persons), some ((dO (dT4 G.K dI dS dS dS)) z_)]) .rt one_1 (fun ho_3 => ?_) (fun one_2 ho_3 => ?_)
  ·
    exact ss_ret (e_ifv (f := (dO (dT4 G.K dI dS dS dS))) (x := (none : (Option (Int × Str × Str × Str)))) (y := (none : (Option (Int × Str × Str × Str)))) (t_val (e_call (k_P_is_talk_at_n A) (by decide) G_P_told_by_at_2_is_talk ⟨(), a_persons, True.intro, rfl, rfl⟩ (a_cons (e_var V_P_told_by_at_2_3 rfl) (a_cons (e_var V_P_told_by_at_2_2 rfl) a_nil (fun _ => rfl)) (fun _ => rfl)) (fun _ => rfl)) (fun _ _ => rfl)) (fun _ => (e_var V_P_told_by_at_2_3 rfl)) (fun _ => e_none)) (fun _ _ _ h => h)
  ·
    exact ss_ret (e_ifv (f := (dO (dT4 G.K dI dS dS dS))) (x := (some one_2)) (y := (none : (Option (Int × Str × Str × Str)))) (t_val (e_call (k_P_is_talk A) (by decide) G_P_told_by_at_2_is_talk ⟨one_2, a_persons, True.intro, rfl, rfl⟩ (a_cons (e_var V_P_told_by_at_2_3 rfl) (a_cons (e_var V_P_told_by_at_2_2 rfl) a_nil (fun _ => rfl)) (fun _ => rfl)) (fun _ => rfl)) (fun _ _ => rfl)) (fun _ => (e_var V_P_told_by_at_2_3 rfl)) (fun _ => e_none)) (fun _ _ _ h => h)
theorem k_P_told_by_at_2 {G : Cfg} (A : All G) : Callee G 4 "told_by" (sp_P_told_by_at_2 G) := by
  refine A.d_P_told_by.callee (N := N_P_told_by_at_2) (ps := ["words", "kind", "persons"]) (scope_of rfl rfl rfl (by decide +kernel)) (fun ds O rk h => ?_) (fun _ _ _ _ _ _ us hl => match us, hl with | [_, _, _], _ => rfl) (fun ds O rk h => ?_)
  · obtain ⟨a_words, a_kind, a_persons, hp, rfl, rfl⟩ := h; rfl
  · obtain ⟨a_words, a_kind, a_persons, hp, rfl, rfl⟩ := h; exact ⟨_, _, _, _, b_P_told_by_at_2 A O a_words a_kind a_persons hp, rfl⟩
def N_P_is_saying_at_n : List Str := ["thing", "persons"]
def C_P_is_saying_at_n : Sc := ⟨2, N_P_is_saying_at_n, defScope (top 25), true, true⟩
instance : Calm C_P_is_saying_at_n := ⟨rfl⟩
theorem V_P_is_saying_at_n_0 : Var C_P_is_saying_at_n 0 "thing" := var_of (by decide +kernel)
theorem G_P_is_saying_at_n_isinstance : Glo C_P_is_saying_at_n "isinstance" := glo_of (by decide +kernel)
theorem G_P_is_saying_at_n_tuple : Glo C_P_is_saying_at_n "tuple" := glo_of (by decide +kernel)
theorem b_P_is_saying_at_n {G : Cfg} (A : All G) (O : Own) (a_thing : Unit) (a_persons : (List Str)) : SS G C_P_is_saying_at_n (defBody (top 25)) (frame0 N_P_is_saying_at_n [dU a_thing, (dLo G.K dS) a_persons]) O (fnV dB O) (.rt (m_P_is_saying_at_n a_thing a_persons)) := by
  unfold m_P_is_saying_at_n
  refine ss_gone (t_eq (t_w (t_or1 (t_eq (t_not (t_val (e_callB (k_isi (b := false) ty_none (by decide +kernel)) G_P_is_saying_at_n_isinstance A.b_isinstance bt_isinstance (a_cons (e_var V_P_is_saying_at_n_0 rfl) (a_cons (e_tyname G_P_is_saying_at_n_tuple A.b_tuple bt_tuple) a_nil (fun _ => rfl)) (fun _ => rfl)) (fun _ => rfl)) (fun _ _ => rfl))) (b := (!false)) (by rfl)))) (b := true) (by rfl)) ?_
  exact ss_ret e_bool (fun _ _ _ h => h)
theorem k_P_is_saying_at_n {G : Cfg} (A : All G) : Callee G 3 "is_saying" (sp_P_is_saying_at_n G) := by
  refine A.d_P_is_saying.callee (N := N_P_is_saying_at_n) (ps := ["thing", "persons"]) (scope_of rfl rfl rfl (by decide +kernel)) (fun ds O rk h => ?_) (fun _ _ _ _ _ _ us hl => match us, hl with | [_, _], _ => rfl) (fun ds O rk h => ?_)
  · obtain ⟨a_thing, a_persons, hp, rfl, rfl⟩ := h; rfl
  · obtain ⟨a_thing, a_persons, hp, rfl, rfl⟩ := h; exact ⟨_, _, _, _, b_P_is_saying_at_n A O a_thing a_persons, rfl⟩
def N_P_told_by_at_3 : List Str := ["words", "kind", "persons", "one"]
def C_P_told_by_at_3 : Sc := ⟨3, N_P_told_by_at_3, defScope (top 36), true, true⟩
instance : Calm C_P_told_by_at_3 := ⟨rfl⟩
theorem V_P_told_by_at_3_0 : Var C_P_told_by_at_3 0 "words" := var_of (by decide +kernel)
theorem V_P_told_by_at_3_1 : Var C_P_told_by_at_3 1 "kind" := var_of (by decide +kernel)
theorem V_P_told_by_at_3_2 : Var C_P_told_by_at_3 2 "persons" := var_of (by decide +kernel)
theorem V_P_told_by_at_3_3 : Var C_P_told_by_at_3 3 "one" := var_of (by decide +kernel)
theorem S_P_told_by_at_3_3 : Loca C_P_told_by_at_3 3 "one" := loc_of (by decide +kernel)
theorem G_P_told_by_at_3_is_saying : Glo C_P_told_by_at_3 "is_saying" := glo_of (by decide +kernel)
theorem G_P_told_by_at_3_saying_in : Glo C_P_told_by_at_3 "saying_in" := glo_of (by decide +kernel)
theorem b_P_told_by_at_3 {G : Cfg} (A : All G) (O : Own) (a_words : (List Str)) (a_kind : Int) (a_persons : (List Str)) (hpre : 1 ≤ a_words.length ∧ a_kind = (3 : Int)) : SS G C_P_told_by_at_3 (defBody (top 36)) (frame0 N_P_told_by_at_3 [(dLo G.K dS) a_words, dI a_kind, (dLo G.K dS) a_persons]) O (fnV (dO (dSy G.K)) O) (.rt (m_P_told_by_at_3 a_words a_kind a_persons)) := by
  unfold m_P_told_by_at_3
  have hwl := hpre.1
  refine ss_skip (t_eq (t_cmp c_eqI (e_var V_P_told_by_at_3_1 rfl) e_int rfl) (b := (decide (a_kind = (0 : Int)))) (by rw [hpre.2]; decide)) ?_
  refine ss_skip (t_eq (t_cmp c_eqI (e_var V_P_told_by_at_3_1 rfl) e_int rfl) (b := (decide (a_kind = (1 : Int)))) (by rw [hpre.2]; decide)) ?_
  refine ss_skip (t_eq (t_cmp c_eqI (e_var V_P_told_by_at_3_1 rfl) e_int rfl) (b := (decide (a_kind = (2 : Int)))) (by rw [hpre.2]; decide)) ?_
  refine ss_asg (f := (dO (dSy G.K))) .rt S_P_told_by_at_3_3 (fun _ => rfl) (e_call (k_P_saying_in A) (by decide) G_P_told_by_at_3_saying_in ⟨a_words, (by trivial), rfl, rfl⟩ (a_cons (e_var V_P_told_by_at_3_0 rfl) a_nil (fun _ => rfl)) (fun _ => rfl)) ?_
  intro one_1 hone_1
  refine ss_opt (Γ := fun z_ : (Option Sy) => [some ((dLo G.K dS) a_words), some (dI a_kind), some ((dLo G.K dS) a_persons), some ((dO (dSy G.K)) z_)]) .rt one_1 (fun ho_3 => ?_) (fun one_2 ho_3 => ?_)
  ·
    exact ss_ret (e_ifv (f := (dO (dSy G.K))) (x := (none : (Option Sy))) (y := (none : (Option Sy))) (t_val (e_call (k_P_is_saying_at_n A) (by decide) G_P_told_by_at_3_is_saying ⟨(), a_persons, True.intro, rfl, rfl⟩ (a_cons (e_var V_P_told_by_at_3_3 rfl) (a_cons (e_var V_P_told_by_at_3_2 rfl) a_nil (fun _ => rfl)) (fun _ => rfl)) (fun _ => rfl)) (fun _ _ => rfl)) (fun _ => (e_var V_P_told_by_at_3_3 rfl)) (fun _ => e_none)) (fun _ _ _ h => h)
  ·
    exact ss_ret (e_ifv (f := (dO (dSy G.K))) (x := (some one_2)) (y := (none : (Option Sy))) (t_val (e_call (k_P_is_saying A) (by decide) G_P_told_by_at_3_is_saying ⟨one_2, a_persons, True.intro, rfl, rfl⟩ (a_cons (e_var V_P_told_by_at_3_3 rfl) (a_cons (e_var V_P_told_by_at_3_2 rfl) a_nil (fun _ => rfl)) (fun _ => rfl)) (fun _ => rfl)) (fun _ _ => rfl)) (fun _ => (e_var V_P_told_by_at_3_3 rfl)) (fun _ => e_none)) (fun _ _ _ h => h)
theorem k_P_told_by_at_3 {G : Cfg} (A : All G) : Callee G 4 "told_by" (sp_P_told_by_at_3 G) := by
  refine A.d_P_told_by.callee (N := N_P_told_by_at_3) (ps := ["words", "kind", "persons"]) (scope_of rfl rfl rfl (by decide +kernel)) (fun ds O rk h => ?_) (fun _ _ _ _ _ _ us hl => match us, hl with | [_, _, _], _ => rfl) (fun ds O rk h => ?_)
  · obtain ⟨a_words, a_kind, a_persons, hp, rfl, rfl⟩ := h; rfl
  · obtain ⟨a_words, a_kind, a_persons, hp, rfl, rfl⟩ := h; exact ⟨_, _, _, _, b_P_told_by_at_3 A O a_words a_kind a_persons hp, rfl⟩
def N_L_names : List Str := ["_law_cell", "_law_letters", "_law_number", "_law_many_here", "_law_stem", "_law_k", "_law_at", "_law_more", "_law_names_here", "_law_name"]
def C_L_names : Sc := ⟨0, N_L_names, defScope (top 39), true, true⟩
instance : Calm C_L_names := ⟨rfl⟩
theorem nd_L_names : C_L_names.N.Nodup := by decide +kernel
theorem V_L_names_0 : Var C_L_names 0 "_law_cell" := var_of (by decide +kernel)
theorem V_L_names_1 : Var C_L_names 1 "_law_letters" := var_of (by decide +kernel)
theorem V_L_names_2 : Var C_L_names 2 "_law_number" := var_of (by decide +kernel)
theorem V_L_names_3 : Var C_L_names 3 "_law_many_here" := var_of (by decide +kernel)
theorem V_L_names_4 : Var C_L_names 4 "_law_stem" := var_of (by decide +kernel)
theorem V_L_names_5 : Var C_L_names 5 "_law_k" := var_of (by decide +kernel)
theorem V_L_names_6 : Var C_L_names 6 "_law_at" := var_of (by decide +kernel)
theorem V_L_names_7 : Var C_L_names 7 "_law_more" := var_of (by decide +kernel)
theorem V_L_names_8 : Var C_L_names 8 "_law_names_here" := var_of (by decide +kernel)
theorem V_L_names_9 : Var C_L_names 9 "_law_name" := var_of (by decide +kernel)
theorem S_L_names_1 : Loca C_L_names 1 "_law_letters" := loc_of (by decide +kernel)
theorem S_L_names_2 : Loca C_L_names 2 "_law_number" := loc_of (by decide +kernel)
theorem S_L_names_3 : Loca C_L_names 3 "_law_many_here" := loc_of (by decide +kernel)
theorem S_L_names_4 : Loca C_L_names 4 "_law_stem" := loc_of (by decide +kernel)
theorem S_L_names_5 : Loca C_L_names 5 "_law_k" := loc_of (by decide +kernel)
theorem S_L_names_6 : Loca C_L_names 6 "_law_at" := loc_of (by decide +kernel)
theorem S_L_names_7 : Loca C_L_names 7 "_law_more" := loc_of (by decide +kernel)
theorem S_L_names_8 : Loca C_L_names 8 "_law_names_here" := loc_of (by decide +kernel)
theorem S_L_names_9 : Loca C_L_names 9 "_law_name" := loc_of (by decide +kernel)
theorem G_L_names_range : Glo C_L_names "range" := glo_of (by decide +kernel)
theorem b_L_names {G : Cfg} (A : All G) (O : Own) (a_cell : Int) : SS G C_L_names (defBody (top 39)) (frame0 N_L_names [dI a_cell]) O (fnV (dLo G.K dS) O) (.rt (m_L_names a_cell)) := by
  unfold m_L_names
  refine ss_asg (f := dS) .rt S_L_names_1 (fun _ => rfl) e_str ?_
  intro letters_1 hletters_1
  have hletters_1_l : letters_1.length = 22 := by rw [hletters_1]; decide +kernel
  refine ss_asg (f := dI) .rt S_L_names_2 (fun _ => rfl) (e_mod (e_mulR (e_add (e_mod (e_var V_L_names_0 rfl) (e_powC 1000000000000000 e_int e_int (by decide +kernel)) (by trivial)) e_int) e_int (by trivial)) e_int (by trivial)) ?_
  intro number_2 hnumber_2
  refine ss_asg (f := dI) .rt S_L_names_3 (fun _ => rfl) (e_mod (e_var V_L_names_2 rfl) e_int (by trivial)) ?_
  intro many_here_3 hmany_here_3
  refine ss_asg (f := dS) .rt S_L_names_4 (fun _ => rfl) (e_join e_str (en_lst (en_lc (own := [("_law_k", 5)]) (df := dI) (dg := dS) (xs := (upto many_here_3)) (g := fun e_4 => (signAt letters_1 (((number_2 / (11 : Int)) + (((5 : Int) * e_4) * e_4)) % (22 : Int)))) nd_L_names (ei_range G_L_names_range A.b_range (e_var V_L_names_3 rfl) (by first | omega | trivial) (fun _ => rfl)) (fun _ _ => trivial) (blkOk_by (by decide +kernel)) (fun e_4 => (tj_name (loc_of (i := 5) (by decide +kernel)))) (by decide) (fun e_4 hm_5 q_ _ => by have := mem_upto hm_5; exact (e_ixS (e_var (var_of (i := 1) (by decide +kernel)) rfl) (e_mod (e_add (e_divS (e_var (var_of (i := 2) (by decide +kernel)) rfl) e_int (by trivial)) (e_mulR (e_mulL e_int (e_var (var_of (i := 5) (by decide +kernel)) rfl) (by trivial)) (e_var (var_of (i := 5) (by decide +kernel)) rfl) (by trivial))) e_int (by trivial)) (by trivial) (fun _ _ => rfl))) (by trivial) (fun _ _ => rfl))) (by trivial) (fun _ => rfl) (fun _ => rfl) rfl) ?_
  intro stem_7 hstem_7
  have hl_stem_7 : stem_7.length ≤ 11 := by rw [hstem_7]; exact Nat.le_trans join_signs (by rw [upto_len]; omega)
  refine ss_asg (f := dI) .rt S_L_names_6 (fun _ => rfl) (e_mod (e_divS (e_var V_L_names_2 rfl) e_int (by trivial)) (e_add (e_var V_L_names_3 rfl) e_int) (by trivial)) ?_
  intro at_8 hat_8
  refine ss_asg (f := dS) .rt S_L_names_7 (fun _ => rfl) (e_ixS (e_var V_L_names_1 rfl) (e_mod (e_divS (e_var V_L_names_2 rfl) e_int (by trivial)) e_int (by trivial)) (by trivial) (fun _ _ => rfl)) ?_
  intro more_9 hmore_9
  have hl_more_9 : more_9.length = 1 := by rw [hmore_9]; rfl
  refine ss_asg (f := (dLo G.K dS)) .rt S_L_names_8 (fun _ => rfl) (en_lst (en_list (ds := []) a_nil (Nat.le_of_ble_eq_true rfl))) ?_
  intro names_here_10 hnames_here_10
  have hnames_here_10_l : names_here_10.length = 0 := by rw [hnames_here_10]; rfl
  refine ss_fold (Γ := [some (dI a_cell), some (dS letters_1), some (dI number_2), some (dI many_here_3), some (dS stem_7), none, some (dI at_8), some (dS more_9), some ((dLo G.K dS) names_here_10), none]) (df := dI) (s0 := names_here_10) .rt (fun s_11 : (List Str) => [some (dI a_cell), some (dS letters_1), some (dI number_2), some (dI many_here_3), some (dS stem_7), none, some (dI at_8), some (dS more_9), some ((dLo G.K dS) s_11), none]) (fun (s_11 : (List Str)) (x_12 : Int) => ([some (dI a_cell), some (dS letters_1), some (dI number_2), some (dI many_here_3), some (dS stem_7), none, some (dI at_8), some (dS more_9), some ((dLo G.K dS) s_11), none]).set 5 (some (dI x_12))) (fun s_11 : (List Str) => O) (ei_range G_L_names_range A.b_range e_int (by first | omega | trivial) (fun _ => rfl)) (by exact ⟨.inr rfl, .inr rfl, .inr rfl, .inr rfl, .inr rfl, .inl rfl, .inr rfl, .inr rfl, .inr rfl, .inl rfl, trivial⟩) rfl (fun _ => trivial) (fun s_11 x_12 => (tj_name S_L_names_5)) ?_ ?_ (fun _ _ => rfl)
  ·
    intro s_11 x_12 pre_13 post_14 hs_15 hf_16
    have hm_17 : x_12 ∈ (upto (12 : Int)) := by rw [hs_15]; simp
    have := mem_upto hm_17
    have hpl_18 : pre_13.length < ((upto (12 : Int))).length := by rw [hs_15, List.length_append, List.length_cons]; omega
    rw [upto_len] at hpl_18
    have hgrow_19 : (s_11).length ≤ (names_here_10).length + 2 * pre_13.length := by
      rw [hf_16]
      refine foldl_meas (m := fun s_11 : (List Str) => (s_11).length) ?_ (s0 := names_here_10)
      intro _ _
      first | exact app_le | exact putIf_len | (simp only [lt]; exact dPut_len) | (simp only [lt]; split <;> first | exact dPut_len | omega) | ((try simp only [lt]); (repeat' split) <;> first | exact dPut_len | exact Nat.le_succ _) | (simp only [lt, slen_app, signAt_len, List.length_append, List.length_cons, List.length_nil]; omega) | ((try simp only [lt]); (repeat' split) <;> ((try simp only [lt, slen_app, signAt_len, List.length_append, List.length_cons, List.length_nil]); omega))
    have := @cutS_len stem_7 none (some at_8)
    have := @cutS_len stem_7 (some at_8) none
    refine ss_asg (f := dS) .nx S_L_names_9 (fun _ => rfl) (e_addS (e_addS (e_slS (e_var V_L_names_4 rfl) eo_none (eo_some (e_var V_L_names_6 rfl))) (e_ixS (e_var V_L_names_1 rfl) (e_mod (e_add (e_divS (e_var V_L_names_2 rfl) e_int (by trivial)) (e_mulL e_int (e_var V_L_names_5 rfl) (by trivial))) e_int (by trivial)) (by trivial) (fun _ _ => rfl)) (by trivial)) (e_slS (e_var V_L_names_4 rfl) (eo_some (e_var V_L_names_6 rfl)) eo_none) (by trivial)) ?_
    intro name_20 hname_20
    have hl_name_20 : name_20.length ≤ 30 := by
      rw [hname_20]; simp only [slen_app, signAt_len]; omega
    refine ss_asg (f := (dLo G.K dS)) .nx S_L_names_8 (fun _ => rfl) (en_lst (en_cat (f := dS) (xs := s_11) (ys := [name_20, (name_20 ++ more_9)]) (e_var V_L_names_8 rfl) (en_lst (en_list (ds := [dS name_20, dS (name_20 ++ more_9)]) (a_cons (e_var V_L_names_9 rfl) (a_cons (e_addS (e_var V_L_names_9 rfl) (e_var V_L_names_7 rfl) (by trivial)) a_nil (fun _ => rfl)) (fun _ => rfl)) (Nat.le_of_ble_eq_true rfl))) (by trivial))) ?_
    intro names_here_21 hnames_here_21
    exact ss_end (hold_end (by exact ⟨.inr rfl, .inr rfl, .inr rfl, .inr rfl, .inr rfl, .inl rfl, .inr rfl, .inr rfl, .inr rfl, .inl rfl, trivial⟩))
  intro s_11 he_L0
  have hgrow_24 : (s_11).length ≤ (names_here_10).length + 2 * ((upto (12 : Int))).length := by
    rw [he_L0]
    refine foldl_meas (m := fun s_11 : (List Str) => (s_11).length) ?_ (s0 := names_here_10)
    intro _ _
    first | exact app_le | exact putIf_len | (simp only [lt]; exact dPut_len) | (simp only [lt]; split <;> first | exact dPut_len | omega) | ((try simp only [lt]); (repeat' split) <;> first | exact dPut_len | exact Nat.le_succ _) | (simp only [lt, slen_app, signAt_len, List.length_append, List.length_cons, List.length_nil]; omega) | ((try simp only [lt]); (repeat' split) <;> ((try simp only [lt, slen_app, signAt_len, List.length_append, List.length_cons, List.length_nil]); omega))
  rw [upto_len] at hgrow_24
  exact ss_ret (e_var V_L_names_8 rfl) (fun _ _ _ h => h)
theorem k_L_names {G : Cfg} (A : All G) : Callee G 1 "_law_names" (sp_L_names G) := by
  refine A.d_L_names.callee (N := N_L_names) (ps := ["_law_cell"]) (scope_of rfl rfl rfl (by decide +kernel)) (fun ds O rk h => ?_) (fun _ _ _ _ _ _ us hl => match us, hl with | [_], _ => rfl) (fun ds O rk h => ?_)
  · obtain ⟨a_cell, hp, rfl, rfl⟩ := h; rfl
  · obtain ⟨a_cell, hp, rfl, rfl⟩ := h; exact ⟨_, _, _, _, b_L_names A O a_cell, rfl⟩
def N_L_many : List Str := ["_law_cells", "_law_many_here", "_law_at"]
def C_L_many : Sc := ⟨0, N_L_many, defScope (top 40), true, true⟩
instance : Calm C_L_many := ⟨rfl⟩
theorem V_L_many_0 : Var C_L_many 0 "_law_cells" := var_of (by decide +kernel)
theorem V_L_many_1 : Var C_L_many 1 "_law_many_here" := var_of (by decide +kernel)
theorem V_L_many_2 : Var C_L_many 2 "_law_at" := var_of (by decide +kernel)
theorem S_L_many_1 : Loca C_L_many 1 "_law_many_here" := loc_of (by decide +kernel)
theorem S_L_many_2 : Loca C_L_many 2 "_law_at" := loc_of (by decide +kernel)
theorem b_L_many {G : Cfg} (A : All G) (O : Own) (a_cells : (List Int)) (hpre : a_cells.length = 7) : SS G C_L_many (defBody (top 40)) (frame0 N_L_many [(dLo G.K dI) a_cells]) O (fnN (fun r => oLst (List.map dI r)) O) (.rt (m_L_many a_cells)) := by
  unfold m_L_many
  refine ss_new (od := oLst (([(2 : Int), ((nth a_cells (0 : Int)) % (3 : Int)), ((nth a_cells (1 : Int)) % (3 : Int)), ((nth a_cells (2 : Int)) % (3 : Int))]).map dI)) S_L_many_1 (fun _ => rfl) (en_list (ds := [dI (2 : Int), dI ((nth a_cells (0 : Int)) % (3 : Int)), dI ((nth a_cells (1 : Int)) % (3 : Int)), dI ((nth a_cells (2 : Int)) % (3 : Int))]) (a_cons e_int (a_cons (e_mod (e_nthL (f := dI) (xs := a_cells) (e_var V_L_many_0 rfl) e_int (by trivial) (fun _ _ => rfl)) e_int (by trivial)) (a_cons (e_mod (e_nthL (f := dI) (xs := a_cells) (e_var V_L_many_0 rfl) e_int (by trivial) (fun _ _ => rfl)) e_int (by trivial)) (a_cons (e_mod (e_nthL (f := dI) (xs := a_cells) (e_var V_L_many_0 rfl) e_int (by trivial) (fun _ _ => rfl)) e_int (by trivial)) a_nil (fun _ => rfl)) (fun _ => rfl)) (fun _ => rfl)) (fun _ => rfl)) (Nat.le_of_ble_eq_true rfl)) ?_
  intro p_many_here_1
  refine ss_asg (f := dI) .rt S_L_many_2 (fun _ => rfl) (e_mod (e_nthL (f := dI) (xs := a_cells) (e_var V_L_many_0 rfl) e_int (by trivial) (fun _ _ => rfl)) e_int (by trivial)) ?_
  intro at_3 hat_3
  have hat : 0 ≤ at_3 ∧ at_3 < 4 := by rw [hat_3]; omega
  refine ss_setL (f := dI) (xs := [(2 : Int), ((nth a_cells (0 : Int)) % (3 : Int)), ((nth a_cells (1 : Int)) % (3 : Int)), ((nth a_cells (2 : Int)) % (3 : Int))]) (y := ((nth ([(24 : Int), (24 : Int), (120 : Int), (60 : Int)]) at_3) + ((nth a_cells (4 : Int)) % (3 : Int)))) (n := 0) .rt rfl (e_var V_L_many_1 rfl) (e_var V_L_many_2 rfl) (e_add (e_nthL (f := dI) (xs := [(24 : Int), (24 : Int), (120 : Int), (60 : Int)]) (en_lst (en_list (ds := [dI (24 : Int), dI (24 : Int), dI (120 : Int), dI (60 : Int)]) (a_cons e_int (a_cons e_int (a_cons e_int (a_cons e_int a_nil (fun _ => rfl)) (fun _ => rfl)) (fun _ => rfl)) (fun _ => rfl)) (Nat.le_of_ble_eq_true rfl))) (e_var V_L_many_2 rfl) (inR_len (m := 4) rfl (by trivial)) (fun _ _ => rfl)) (e_mod (e_nthL (f := dI) (xs := a_cells) (e_var V_L_many_0 rfl) e_int (by trivial) (fun _ _ => rfl)) e_int (by trivial))) (by trivial) (fun _ => rfl) (fun _ => rfl) (fun _ _ => rfl) ?_
  intro many_here_4 hmany_here_4
  exact ss_retO V_L_many_1 rfl (fun _ _ _ h => h)
theorem k_L_many {G : Cfg} (A : All G) : Callee G 1 "_law_many" (sp_L_many G) := by
  refine A.d_L_many.callee (N := N_L_many) (ps := ["_law_cells"]) (scope_of rfl rfl rfl (by decide +kernel)) (fun ds O rk h => ?_) (fun _ _ _ _ _ _ us hl => match us, hl with | [_], _ => rfl) (fun ds O rk h => ?_)
  · obtain ⟨a_cells, hp, rfl, rfl⟩ := h; rfl
  · obtain ⟨a_cells, hp, rfl, rfl⟩ := h; exact ⟨_, _, _, _, b_L_many A O a_cells hp, rfl⟩
def N_P_are_persons : List Str := ["thing", "name"]
def C_P_are_persons : Sc := ⟨1, N_P_are_persons, defScope (top 20), true, true⟩
instance : Calm C_P_are_persons := ⟨rfl⟩
theorem V_P_are_persons_0 : Var C_P_are_persons 0 "thing" := var_of (by decide +kernel)
theorem V_P_are_persons_1 : Var C_P_are_persons 1 "name" := var_of (by decide +kernel)
theorem S_P_are_persons_1 : Loca C_P_are_persons 1 "name" := loc_of (by decide +kernel)
theorem G_P_are_persons_MOST_PERSONS : Glo C_P_are_persons "MOST_PERSONS" := glo_of (by decide +kernel)
theorem G_P_are_persons_is_name : Glo C_P_are_persons "is_name" := glo_of (by decide +kernel)
theorem G_P_are_persons_isinstance : Glo C_P_are_persons "isinstance" := glo_of (by decide +kernel)
theorem G_P_are_persons_len : Glo C_P_are_persons "len" := glo_of (by decide +kernel)
theorem G_P_are_persons_list : Glo C_P_are_persons "list" := glo_of (by decide +kernel)
theorem G_P_are_persons_set : Glo C_P_are_persons "set" := glo_of (by decide +kernel)
theorem b_P_are_persons {G : Cfg} (A : All G) (O : Own) (a_thing : (List Str)) : SS G C_P_are_persons (defBody (top 20)) (frame0 N_P_are_persons [(dLo G.K dS) a_thing]) O (fnV dB O) (.rt (m_P_are_persons a_thing)) := by
  unfold m_P_are_persons
  refine ss_when .rt (t_w (w_or (t_not (t_val (e_callB (k_isi (b := true) ty_lst (by decide +kernel)) G_P_are_persons_isinstance A.b_isinstance bt_isinstance (a_cons (e_var V_P_are_persons_0 rfl) (a_cons (e_tyname G_P_are_persons_list A.b_list bt_list) a_nil (fun _ => rfl)) (fun _ => rfl)) (fun _ => rfl)) (fun _ _ => rfl))) (fun hb_1 => (w_or1 (t_not (t_chain c_le (fun _ => c_le) e_int (e_callB (k_lenLo (xs := a_thing) (f := dS)) G_P_are_persons_len A.b_len bt_len (a_cons (e_var V_P_are_persons_0 rfl) a_nil (fun _ => rfl)) (fun _ => rfl)) (fun _ => (e_globI G_P_are_persons_MOST_PERSONS A.c_MOST_PERSONS)) (fun X _ _ _ _ _ h1 h2 h3 h4 h5 => pt_chain h1 h2 h3 h4 h5 (by with_unfolding_all rfl)))))))) (fun _ => nofun) (fun hc_3 => ?_) (fun hc_3 => ?_)
  ·
    exact ss_ret e_bool (fun _ _ _ h => h)
  refine ss_loop (Γ := [some ((dLo G.K dS) a_thing), none]) (df := dS) (s0 := ()) (fun s_4 : Unit => [some ((dLo G.K dS) a_thing), none]) (fun (s_4 : Unit) (x_5 : Str) => ([some ((dLo G.K dS) a_thing), none]).set 1 (some (dS x_5))) (fun s_4 : Unit => O) (ei_list (e_var V_P_are_persons_0 rfl)) (by exact ⟨.inr rfl, .inl rfl, trivial⟩) rfl (fun _ => trivial) (fun s_4 x_5 => (tj_name S_P_are_persons_1)) ?_ ?_ (fun _ _ => rfl)
  ·
    intro s_4 x_5 pre_6 post_7 hs_8 hf_9
    have hm_10 : x_5 ∈ a_thing := by rw [hs_8]; simp
    have hpl_11 : pre_6.length < (a_thing).length := by rw [hs_8, List.length_append, List.length_cons]; omega
    refine ss_if Ret.out (t_not (t_val (e_call (k_P_is_name A) (by decide) G_P_are_persons_is_name ⟨(Va.str x_5), True.intro, rfl, rfl⟩ (a_cons (e_eq (e_var V_P_are_persons_1 rfl) ((fun x => (dA_str x).symm) x_5)) a_nil (fun _ => rfl)) (fun _ => rfl)) (fun _ _ => rfl))) (fun hc_12 => ?_) (fun hc_12 => ?_)
    ·
      exact ss_ret e_bool (fun _ _ _ h => h)
    ·
      exact ss_end (hold_end (by exact ⟨.inr rfl, .inl rfl, trivial⟩))
  intro s_4 he_L0
  exact ss_ret (e_cmp c_eqI (e_lenSet G_P_are_persons_len A.b_len G_P_are_persons_set A.b_set (e_var V_P_are_persons_0 rfl) (by trivial) (fun _ => rfl)) (e_callB (k_lenLo (xs := a_thing) (f := dS)) G_P_are_persons_len A.b_len bt_len (a_cons (e_var V_P_are_persons_0 rfl) a_nil (fun _ => rfl)) (fun _ => rfl)) rfl) (fun _ _ _ h => h)
theorem k_P_are_persons {G : Cfg} (A : All G) : Callee G 2 "are_persons" (sp_P_are_persons G) := by
  refine A.d_P_are_persons.callee (N := N_P_are_persons) (ps := ["thing"]) (scope_of rfl rfl rfl (by decide +kernel)) (fun ds O rk h => ?_) (fun _ _ _ _ _ _ us hl => match us, hl with | [_], _ => rfl) (fun ds O rk h => ?_)
  · obtain ⟨a_thing, hp, rfl, rfl⟩ := h; rfl
  · obtain ⟨a_thing, hp, rfl, rfl⟩ := h; exact ⟨_, _, _, _, b_P_are_persons A O a_thing, rfl⟩
def N_P_are_all_at_is_sight : List Str := ["thing", "most", "persons", "fits", "one"]
def C_P_are_all_at_is_sight : Sc := ⟨3, N_P_are_all_at_is_sight, defScope (top 26), true, true⟩
instance : Calm C_P_are_all_at_is_sight := ⟨rfl⟩
theorem V_P_are_all_at_is_sight_0 : Var C_P_are_all_at_is_sight 0 "thing" := var_of (by decide +kernel)
theorem V_P_are_all_at_is_sight_1 : Var C_P_are_all_at_is_sight 1 "most" := var_of (by decide +kernel)
theorem V_P_are_all_at_is_sight_2 : Var C_P_are_all_at_is_sight 2 "persons" := var_of (by decide +kernel)
theorem V_P_are_all_at_is_sight_3 : Var C_P_are_all_at_is_sight 3 "fits" := var_of (by decide +kernel)
theorem V_P_are_all_at_is_sight_4 : Var C_P_are_all_at_is_sight 4 "one" := var_of (by decide +kernel)
theorem S_P_are_all_at_is_sight_4 : Loca C_P_are_all_at_is_sight 4 "one" := loc_of (by decide +kernel)
theorem G_P_are_all_at_is_sight_isinstance : Glo C_P_are_all_at_is_sight "isinstance" := glo_of (by decide +kernel)
theorem G_P_are_all_at_is_sight_len : Glo C_P_are_all_at_is_sight "len" := glo_of (by decide +kernel)
theorem G_P_are_all_at_is_sight_list : Glo C_P_are_all_at_is_sight "list" := glo_of (by decide +kernel)
theorem b_P_are_all_at_is_sight {G : Cfg} (A : All G) (O : Own) (a_thing : (List (Str × Int × (List Str)))) (a_most : Int) (a_persons : (List Str)) : SS G C_P_are_all_at_is_sight (defBody (top 26)) (frame0 N_P_are_all_at_is_sight [(dLo G.K (dT3 G.K dS dI (dVt G.K dS))) a_thing, dI a_most, (dLo G.K dS) a_persons, dFn G 3 (sp_P_is_sight G)]) O (fnV dB O) (.rt (m_P_are_all_at_is_sight a_thing a_most a_persons)) := by
  unfold m_P_are_all_at_is_sight
  refine ss_when .rt (t_w (w_or (t_not (t_val (e_callB (k_isi (b := true) ty_lst (by decide +kernel)) G_P_are_all_at_is_sight_isinstance A.b_isinstance bt_isinstance (a_cons (e_var V_P_are_all_at_is_sight_0 rfl) (a_cons (e_tyname G_P_are_all_at_is_sight_list A.b_list bt_list) a_nil (fun _ => rfl)) (fun _ => rfl)) (fun _ => rfl)) (fun _ _ => rfl))) (fun hb_1 => (w_or1 (t_cmp c_gt (e_callB (k_lenLo (xs := a_thing) (f := (dT3 G.K dS dI (dVt G.K dS)))) G_P_are_all_at_is_sight_len A.b_len bt_len (a_cons (e_var V_P_are_all_at_is_sight_0 rfl) a_nil (fun _ => rfl)) (fun _ => rfl)) (e_var V_P_are_all_at_is_sight_1 rfl) rfl))))) (fun _ => nofun) (fun hc_3 => ?_) (fun hc_3 => ?_)
  ·
    exact ss_ret e_bool (fun _ _ _ h => h)
  refine ss_loop (Γ := [some ((dLo G.K (dT3 G.K dS dI (dVt G.K dS))) a_thing), some (dI a_most), some ((dLo G.K dS) a_persons), some (dFn G 3 (sp_P_is_sight G)), none]) (df := (dT3 G.K dS dI (dVt G.K dS))) (s0 := ()) (fun s_4 : Unit => [some ((dLo G.K (dT3 G.K dS dI (dVt G.K dS))) a_thing), some (dI a_most), some ((dLo G.K dS) a_persons), some (dFn G 3 (sp_P_is_sight G)), none]) (fun (s_4 : Unit) (x_5 : (Str × Int × (List Str))) => ([some ((dLo G.K (dT3 G.K dS dI (dVt G.K dS))) a_thing), some (dI a_most), some ((dLo G.K dS) a_persons), some (dFn G 3 (sp_P_is_sight G)), none]).set 4 (some ((dT3 G.K dS dI (dVt G.K dS)) x_5))) (fun s_4 : Unit => O) (ei_list (e_var V_P_are_all_at_is_sight_0 rfl)) (by exact ⟨.inr rfl, .inr rfl, .inr rfl, .inr rfl, .inl rfl, trivial⟩) rfl (fun _ => trivial) (fun s_4 x_5 => (tj_name S_P_are_all_at_is_sight_4)) ?_ ?_ (fun _ _ => rfl)
  ·
    intro s_4 x_5 pre_6 post_7 hs_8 hf_9
    have hm_10 : x_5 ∈ a_thing := by rw [hs_8]; simp
    have hpl_11 : pre_6.length < (a_thing).length := by rw [hs_8, List.length_append, List.length_cons]; omega
    refine ss_if Ret.out (t_not (t_val (e_callL V_P_are_all_at_is_sight_3 rfl (by decide) ⟨x_5, a_persons, True.intro, rfl, rfl⟩ (a_cons (e_var V_P_are_all_at_is_sight_4 rfl) (a_cons (e_var V_P_are_all_at_is_sight_2 rfl) a_nil (fun _ => rfl)) (fun _ => rfl)) (fun _ => rfl)) (fun _ _ => rfl))) (fun hc_12 => ?_) (fun hc_12 => ?_)
    ·
      exact ss_ret e_bool (fun _ _ _ h => h)
    ·
      exact ss_end (hold_end (by exact ⟨.inr rfl, .inr rfl, .inr rfl, .inr rfl, .inl rfl, trivial⟩))
  intro s_4 he_L0
  exact ss_ret e_bool (fun _ _ _ h => h)
theorem k_P_are_all_at_is_sight {G : Cfg} (A : All G) : Callee G 4 "are_all" (sp_P_are_all_at_is_sight G) := by
  refine A.d_P_are_all.callee (N := N_P_are_all_at_is_sight) (ps := ["thing", "most", "persons", "fits"]) (scope_of rfl rfl rfl (by decide +kernel)) (fun ds O rk h => ?_) (fun _ _ _ _ _ _ us hl => match us, hl with | [_, _, _, _], _ => rfl) (fun ds O rk h => ?_)
  · obtain ⟨a_thing, a_most, a_persons, hp, rfl, rfl⟩ := h; rfl
  · obtain ⟨a_thing, a_most, a_persons, hp, rfl, rfl⟩ := h; exact ⟨_, _, _, _, b_P_are_all_at_is_sight A O a_thing a_most a_persons, rfl⟩
def N_P_are_all_at_is_talk : List Str := ["thing", "most", "persons", "fits", "one"]
def C_P_are_all_at_is_talk : Sc := ⟨3, N_P_are_all_at_is_talk, defScope (top 26), true, true⟩
instance : Calm C_P_are_all_at_is_talk := ⟨rfl⟩
theorem V_P_are_all_at_is_talk_0 : Var C_P_are_all_at_is_talk 0 "thing" := var_of (by decide +kernel)
theorem V_P_are_all_at_is_talk_1 : Var C_P_are_all_at_is_talk 1 "most" := var_of (by decide +kernel)
theorem V_P_are_all_at_is_talk_2 : Var C_P_are_all_at_is_talk 2 "persons" := var_of (by decide +kernel)
theorem V_P_are_all_at_is_talk_3 : Var C_P_are_all_at_is_talk 3 "fits" := var_of (by decide +kernel)
theorem V_P_are_all_at_is_talk_4 : Var C_P_are_all_at_is_talk 4 "one" := var_of (by decide +kernel)
theorem S_P_are_all_at_is_talk_4 : Loca C_P_are_all_at_is_talk 4 "one" := loc_of (by decide +kernel)
theorem G_P_are_all_at_is_talk_isinstance : Glo C_P_are_all_at_is_talk "isinstance" := glo_of (by decide +kernel)
theorem G_P_are_all_at_is_talk_len : Glo C_P_are_all_at_is_talk "len" := glo_of (by decide +kernel)
theorem G_P_are_all_at_is_talk_list : Glo C_P_are_all_at_is_talk "list" := glo_of (by decide +kernel)
theorem b_P_are_all_at_is_talk {G : Cfg} (A : All G) (O : Own) (a_thing : (List (Int × Str × Str × Str))) (a_most : Int) (a_persons : (List Str)) : SS G C_P_are_all_at_is_talk (defBody (top 26)) (frame0 N_P_are_all_at_is_talk [(dLo G.K (dT4 G.K dI dS dS dS)) a_thing, dI a_most, (dLo G.K dS) a_persons, dFn G 3 (sp_P_is_talk G)]) O (fnV dB O) (.rt (m_P_are_all_at_is_talk a_thing a_most a_persons)) := by
  unfold m_P_are_all_at_is_talk
  refine ss_when .rt (t_w (w_or (t_not (t_val (e_callB (k_isi (b := true) ty_lst (by decide +kernel)) G_P_are_all_at_is_talk_isinstance A.b_isinstance bt_isinstance (a_cons (e_var V_P_are_all_at_is_talk_0 rfl) (a_cons (e_tyname G_P_are_all_at_is_talk_list A.b_list bt_list) a_nil (fun _ => rfl)) (fun _ => rfl)) (fun _ => rfl)) (fun _ _ => rfl))) (fun hb_1 => (w_or1 (t_cmp c_gt (e_callB (k_lenLo (xs := a_thing) (f := (dT4 G.K dI dS dS dS))) G_P_are_all_at_is_talk_len A.b_len bt_len (a_cons (e_var V_P_are_all_at_is_talk_0 rfl) a_nil (fun _ => rfl)) (fun _ => rfl)) (e_var V_P_are_all_at_is_talk_1 rfl) rfl))))) (fun _ => nofun) (fun hc_3 => ?_) (fun hc_3 => ?_)
  ·
    exact ss_ret e_bool (fun _ _ _ h => h)
  refine ss_loop (Γ := [some ((dLo G.K (dT4 G.K dI dS dS dS)) a_thing), some (dI a_most), some ((dLo G.K dS) a_persons), some (dFn G 3 (sp_P_is_talk G)), none]) (df := (dT4 G.K dI dS dS dS)) (s0 := ()) (fun s_4 : Unit => [some ((dLo G.K (dT4 G.K dI dS dS dS)) a_thing), some (dI a_most), some ((dLo G.K dS) a_persons), some (dFn G 3 (sp_P_is_talk G)), none]) (fun (s_4 : Unit) (x_5 : (Int × Str × Str × Str)) => ([some ((dLo G.K (dT4 G.K dI dS dS dS)) a_thing), some (dI a_most), some ((dLo G.K dS) a_persons), some (dFn G 3 (sp_P_is_talk G)), none]).set 4 (some ((dT4 G.K dI dS dS dS) x_5))) (fun s_4 : Unit => O) (ei_list (e_var V_P_are_all_at_is_talk_0 rfl)) (by exact ⟨.inr rfl, .inr rfl, .inr rfl, .inr rfl, .inl rfl, trivial⟩) rfl (fun _ => trivial) (fun s_4 x_5 => (tj_name S_P_are_all_at_is_talk_4)) ?_ ?_ (fun _ _ => rfl)
  ·
    intro s_4 x_5 pre_6 post_7 hs_8 hf_9
    have hm_10 : x_5 ∈ a_thing := by rw [hs_8]; simp
    have hpl_11 : pre_6.length < (a_thing).length := by rw [hs_8, List.length_append, List.length_cons]; omega
    refine ss_if Ret.out (t_not (t_val (e_callL V_P_are_all_at_is_talk_3 rfl (by decide) ⟨x_5, a_persons, True.intro, rfl, rfl⟩ (a_cons (e_var V_P_are_all_at_is_talk_4 rfl) (a_cons (e_var V_P_are_all_at_is_talk_2 rfl) a_nil (fun _ => rfl)) (fun _ => rfl)) (fun _ => rfl)) (fun _ _ => rfl))) (fun hc_12 => ?_) (fun hc_12 => ?_)
    ·
      exact ss_ret e_bool (fun _ _ _ h => h)
    ·
      exact ss_end (hold_end (by exact ⟨.inr rfl, .inr rfl, .inr rfl, .inr rfl, .inl rfl, trivial⟩))
  intro s_4 he_L0
  exact ss_ret e_bool (fun _ _ _ h => h)
theorem k_P_are_all_at_is_talk {G : Cfg} (A : All G) : Callee G 4 "are_all" (sp_P_are_all_at_is_talk G) := by
  refine A.d_P_are_all.callee (N := N_P_are_all_at_is_talk) (ps := ["thing", "most", "persons", "fits"]) (scope_of rfl rfl rfl (by decide +kernel)) (fun ds O rk h => ?_) (fun _ _ _ _ _ _ us hl => match us, hl with | [_, _, _, _], _ => rfl) (fun ds O rk h => ?_)
  · obtain ⟨a_thing, a_most, a_persons, hp, rfl, rfl⟩ := h; rfl
  · obtain ⟨a_thing, a_most, a_persons, hp, rfl, rfl⟩ := h; exact ⟨_, _, _, _, b_P_are_all_at_is_talk A O a_thing a_most a_persons, rfl⟩
def N_P_are_all_at_is_saying : List Str := ["thing", "most", "persons", "fits", "one"]
def C_P_are_all_at_is_saying : Sc := ⟨3, N_P_are_all_at_is_saying, defScope (top 26), true, true⟩
instance : Calm C_P_are_all_at_is_saying := ⟨rfl⟩
theorem V_P_are_all_at_is_saying_0 : Var C_P_are_all_at_is_saying 0 "thing" := var_of (by decide +kernel)
theorem V_P_are_all_at_is_saying_1 : Var C_P_are_all_at_is_saying 1 "most" := var_of (by decide +kernel)
theorem V_P_are_all_at_is_saying_2 : Var C_P_are_all_at_is_saying 2 "persons" := var_of (by decide +kernel)
theorem V_P_are_all_at_is_saying_3 : Var C_P_are_all_at_is_saying 3 "fits" := var_of (by decide +kernel)
theorem V_P_are_all_at_is_saying_4 : Var C_P_are_all_at_is_saying 4 "one" := var_of (by decide +kernel)
theorem S_P_are_all_at_is_saying_4 : Loca C_P_are_all_at_is_saying 4 "one" := loc_of (by decide +kernel)
theorem G_P_are_all_at_is_saying_isinstance : Glo C_P_are_all_at_is_saying "isinstance" := glo_of (by decide +kernel)
theorem G_P_are_all_at_is_saying_len : Glo C_P_are_all_at_is_saying "len" := glo_of (by decide +kernel)
theorem G_P_are_all_at_is_saying_list : Glo C_P_are_all_at_is_saying "list" := glo_of (by decide +kernel)
theorem b_P_are_all_at_is_saying {G : Cfg} (A : All G) (O : Own) (a_thing : (List Sy)) (a_most : Int) (a_persons : (List Str)) : SS G C_P_are_all_at_is_saying (defBody (top 26)) (frame0 N_P_are_all_at_is_saying [(dLo G.K (dSy G.K)) a_thing, dI a_most, (dLo G.K dS) a_persons, dFn G 3 (sp_P_is_saying G)]) O (fnV dB O) (.rt (m_P_are_all_at_is_saying a_thing a_most a_persons)) := by
  unfold m_P_are_all_at_is_saying
  refine ss_when .rt (t_w (w_or (t_not (t_val (e_callB (k_isi (b := true) ty_lst (by decide +kernel)) G_P_are_all_at_is_saying_isinstance A.b_isinstance bt_isinstance (a_cons (e_var V_P_are_all_at_is_saying_0 rfl) (a_cons (e_tyname G_P_are_all_at_is_saying_list A.b_list bt_list) a_nil (fun _ => rfl)) (fun _ => rfl)) (fun _ => rfl)) (fun _ _ => rfl))) (fun hb_1 => (w_or1 (t_cmp c_gt (e_callB (k_lenLo (xs := a_thing) (f := (dSy G.K))) G_P_are_all_at_is_saying_len A.b_len bt_len (a_cons (e_var V_P_are_all_at_is_saying_0 rfl) a_nil (fun _ => rfl)) (fun _ => rfl)) (e_var V_P_are_all_at_is_saying_1 rfl) rfl))))) (fun _ => nofun) (fun hc_3 => ?_) (fun hc_3 => ?_)
  ·
    exact ss_ret e_bool (fun _ _ _ h => h)
  refine ss_loop (Γ := [some ((dLo G.K (dSy G.K)) a_thing), some (dI a_most), some ((dLo G.K dS) a_persons), some (dFn G 3 (sp_P_is_saying G)), none]) (df := (dSy G.K)) (s0 := ()) (fun s_4 : Unit => [some ((dLo G.K (dSy G.K)) a_thing), some (dI a_most), some ((dLo G.K dS) a_persons), some (dFn G 3 (sp_P_is_saying G)), none]) (fun (s_4 : Unit) (x_5 : Sy) => ([some ((dLo G.K (dSy G.K)) a_thing), some (dI a_most), some ((dLo G.K dS) a_persons), some (dFn G 3 (sp_P_is_saying G)), none]).set 4 (some ((dSy G.K) x_5))) (fun s_4 : Unit => O) (ei_list (e_var V_P_are_all_at_is_saying_0 rfl)) (by exact ⟨.inr rfl, .inr rfl, .inr rfl, .inr rfl, .inl rfl, trivial⟩) rfl (fun _ => trivial) (fun s_4 x_5 => (tj_name S_P_are_all_at_is_saying_4)) ?_ ?_ (fun _ _ => rfl)
  ·
    intro s_4 x_5 pre_6 post_7 hs_8 hf_9
    have hm_10 : x_5 ∈ a_thing := by rw [hs_8]; simp
    have hpl_11 : pre_6.length < (a_thing).length := by rw [hs_8, List.length_append, List.length_cons]; omega
    refine ss_if Ret.out (t_not (t_val (e_callL V_P_are_all_at_is_saying_3 rfl (by decide) ⟨x_5, a_persons, True.intro, rfl, rfl⟩ (a_cons (e_var V_P_are_all_at_is_saying_4 rfl) (a_cons (e_var V_P_are_all_at_is_saying_2 rfl) a_nil (fun _ => rfl)) (fun _ => rfl)) (fun _ => rfl)) (fun _ _ => rfl))) (fun hc_12 => ?_) (fun hc_12 => ?_)
    ·
      exact ss_ret e_bool (fun _ _ _ h => h)
    ·
      exact ss_end (hold_end (by exact ⟨.inr rfl, .inr rfl, .inr rfl, .inr rfl, .inl rfl, trivial⟩))
  intro s_4 he_L0
  exact ss_ret e_bool (fun _ _ _ h => h)
theorem k_P_are_all_at_is_saying {G : Cfg} (A : All G) : Callee G 4 "are_all" (sp_P_are_all_at_is_saying G) := by
  refine A.d_P_are_all.callee (N := N_P_are_all_at_is_saying) (ps := ["thing", "most", "persons", "fits"]) (scope_of rfl rfl rfl (by decide +kernel)) (fun ds O rk h => ?_) (fun _ _ _ _ _ _ us hl => match us, hl with | [_, _, _, _], _ => rfl) (fun ds O rk h => ?_)
  · obtain ⟨a_thing, a_most, a_persons, hp, rfl, rfl⟩ := h; rfl
  · obtain ⟨a_thing, a_most, a_persons, hp, rfl, rfl⟩ := h; exact ⟨_, _, _, _, b_P_are_all_at_is_saying A O a_thing a_most a_persons, rfl⟩
def N_P_Book : List Str := ["self", "persons", "sights", "talks", "sayings"]
def C_P_Book : Sc := ⟨5, N_P_Book, defScope (inClass (top 27) 0), true, true⟩
instance : Calm C_P_Book := ⟨rfl⟩
theorem V_P_Book_0 : Var C_P_Book 0 "self" := var_of (by decide +kernel)
theorem V_P_Book_1 : Var C_P_Book 1 "persons" := var_of (by decide +kernel)
theorem V_P_Book_2 : Var C_P_Book 2 "sights" := var_of (by decide +kernel)
theorem V_P_Book_3 : Var C_P_Book 3 "talks" := var_of (by decide +kernel)
theorem V_P_Book_4 : Var C_P_Book 4 "sayings" := var_of (by decide +kernel)
theorem G_P_Book_MOST_SAYINGS : Glo C_P_Book "MOST_SAYINGS" := glo_of (by decide +kernel)
theorem G_P_Book_MOST_SIGHTS : Glo C_P_Book "MOST_SIGHTS" := glo_of (by decide +kernel)
theorem G_P_Book_MOST_TALKS : Glo C_P_Book "MOST_TALKS" := glo_of (by decide +kernel)
theorem G_P_Book_are_all : Glo C_P_Book "are_all" := glo_of (by decide +kernel)
theorem G_P_Book_are_persons : Glo C_P_Book "are_persons" := glo_of (by decide +kernel)
theorem G_P_Book_is_saying : Glo C_P_Book "is_saying" := glo_of (by decide +kernel)
theorem G_P_Book_is_sight : Glo C_P_Book "is_sight" := glo_of (by decide +kernel)
theorem G_P_Book_is_talk : Glo C_P_Book "is_talk" := glo_of (by decide +kernel)
theorem G_P_Book_list : Glo C_P_Book "list" := glo_of (by decide +kernel)
theorem b_P_Book {G : Cfg} (A : All G) (O : Own) (p : Addr) (a_persons : (List Str)) (a_sights : (List (Str × Int × (List Str)))) (a_talks : (List (Int × Str × Str × Str))) (a_sayings : (List Sy)) (hpre : goodBook a_persons a_sights a_talks a_sayings) : SS G C_P_Book (defBody (inClass (top 27) 0)) (frame0 N_P_Book [dP p, (dLo G.K dS) a_persons, (dLo G.K (dT3 G.K dS dI (dVt G.K dS))) a_sights, (dLo G.K (dT4 G.K dI dS dS dS)) a_talks, (dLo G.K (dSy G.K)) a_sayings]) ((p, oIns G "Book" [] []) :: O) (⟨fun _ : Unit => SD.of [some (dP p), some ((dLo G.K dS) a_persons), some ((dLo G.K (dT3 G.K dS dI (dVt G.K dS))) a_sights), some ((dLo G.K (dT4 G.K dI dS dS dS)) a_talks), some ((dLo G.K (dSy G.K)) a_sayings)] ((p, oIns G "Book" bookNs (bookDs G.K (m_P_Book a_persons a_sights a_talks a_sayings))) :: O), fun e : Empty => e.elim, fun _ => XD.no⟩) (.nx ()) := by
  refine ss_skip (t_eq (t_not (t_val (e_call (k_P_are_persons A) (by decide) G_P_Book_are_persons ⟨a_persons, True.intro, rfl, rfl⟩ (a_cons (e_var V_P_Book_1 rfl) a_nil (fun _ => rfl)) (fun _ => rfl)) (fun _ _ => rfl))) (b := (!(m_P_are_persons a_persons))) (by rw [hpre.1]; rfl)) ?_
  refine ss_skip (t_eq (t_not (t_val (e_call (k_P_are_all_at_is_sight A) (by decide) G_P_Book_are_all ⟨a_sights, (24 : Int), a_persons, True.intro, rfl, rfl⟩ (a_cons (e_var V_P_Book_2 rfl) (a_cons (e_globI G_P_Book_MOST_SIGHTS A.c_MOST_SIGHTS) (a_cons (e_var V_P_Book_1 rfl) (a_cons (e_fn (k_P_is_sight A) G_P_Book_is_sight) a_nil (fun _ => rfl)) (fun _ => rfl)) (fun _ => rfl)) (fun _ => rfl)) (fun _ => rfl)) (fun _ _ => rfl))) (b := (!(m_P_are_all_at_is_sight a_sights (24 : Int) a_persons))) (by rw [hpre.2.1]; rfl)) ?_
  refine ss_skip (t_eq (t_not (t_val (e_call (k_P_are_all_at_is_talk A) (by decide) G_P_Book_are_all ⟨a_talks, (120 : Int), a_persons, True.intro, rfl, rfl⟩ (a_cons (e_var V_P_Book_3 rfl) (a_cons (e_globI G_P_Book_MOST_TALKS A.c_MOST_TALKS) (a_cons (e_var V_P_Book_1 rfl) (a_cons (e_fn (k_P_is_talk A) G_P_Book_is_talk) a_nil (fun _ => rfl)) (fun _ => rfl)) (fun _ => rfl)) (fun _ => rfl)) (fun _ => rfl)) (fun _ _ => rfl))) (b := (!(m_P_are_all_at_is_talk a_talks (120 : Int) a_persons))) (by rw [hpre.2.2.1]; rfl)) ?_
  refine ss_skip (t_eq (t_not (t_val (e_call (k_P_are_all_at_is_saying A) (by decide) G_P_Book_are_all ⟨a_sayings, (60 : Int), a_persons, True.intro, rfl, rfl⟩ (a_cons (e_var V_P_Book_4 rfl) (a_cons (e_globI G_P_Book_MOST_SAYINGS A.c_MOST_SAYINGS) (a_cons (e_var V_P_Book_1 rfl) (a_cons (e_fn (k_P_is_saying A) G_P_Book_is_saying) a_nil (fun _ => rfl)) (fun _ => rfl)) (fun _ => rfl)) (fun _ => rfl)) (fun _ => rfl)) (fun _ _ => rfl))) (b := (!(m_P_are_all_at_is_saying a_sayings (60 : Int) a_persons))) (by rw [hpre.2.2.2]; rfl)) ?_
  refine ss_fld (n := 0) rfl (e_var V_P_Book_0 rfl) (en_lst (en_callT k_listL G_P_Book_list A.b_list bt_list (a_cons (e_var V_P_Book_1 rfl) a_nil (fun _ => rfl)) (fun _ => rfl))) (by decide +kernel) A.a_Book_crew (by decide) (fun _ => rfl) ?_
  refine ss_fld (n := 0) rfl (e_var V_P_Book_0 rfl) (en_lst (en_callT k_listL G_P_Book_list A.b_list bt_list (a_cons (e_var V_P_Book_2 rfl) a_nil (fun _ => rfl)) (fun _ => rfl))) (by decide +kernel) A.a_Book_views (by decide) (fun _ => rfl) ?_
  refine ss_fld (n := 0) rfl (e_var V_P_Book_0 rfl) (en_lst (en_callT k_listL G_P_Book_list A.b_list bt_list (a_cons (e_var V_P_Book_3 rfl) a_nil (fun _ => rfl)) (fun _ => rfl))) (by decide +kernel) A.a_Book_meetings (by decide) (fun _ => rfl) ?_
  refine ss_fld (n := 0) rfl (e_var V_P_Book_0 rfl) (en_lst (en_callT k_listL G_P_Book_list A.b_list bt_list (a_cons (e_var V_P_Book_4 rfl) a_nil (fun _ => rfl)) (fun _ => rfl))) (by decide +kernel) A.a_Book_claims (by decide) (fun _ => rfl) ?_
  exact ss_nil (hold_end FrLe.refl)
theorem k_P_Book {G : Cfg} (A : All G) : CalI G 6 "Book" (sp_P_Book G) := by
  refine A.i_Book.callee (N := N_P_Book) (ps := ["self", "persons", "sights", "talks", "sayings"]) (scope_of rfl rfl rfl (by decide +kernel)) (fun ds O rk h => ?_) (fun _ _ _ _ _ _ us hl => match us, hl with | [_, _, _, _, _], _ => rfl) (fun ds O rk h => ?_)
  · obtain ⟨p, O1, a_persons, a_sights, a_talks, a_sayings, hp, rfl, rfl, rfl⟩ := h; rfl
  · obtain ⟨p, O1, a_persons, a_sights, a_talks, a_sayings, hp, rfl, rfl, rfl⟩ := h; exact ⟨_, _, _, _, b_P_Book A O1 p a_persons a_sights a_talks a_sayings hp, fun F σ H ⟨F2, e2, h2⟩ => ⟨rfl, F2, e2, h2.ho⟩⟩
def N_P_read_book : List Str := ["text", "found", "last", "row", "signs", "words", "kind", "one"]
def C_P_read_book : Sc := ⟨7, N_P_read_book, defScope (top 37), true, true⟩
instance : Calm C_P_read_book := ⟨rfl⟩
theorem V_P_read_book_0 : Var C_P_read_book 0 "text" := var_of (by decide +kernel)
theorem V_P_read_book_1 : Var C_P_read_book 1 "found" := var_of (by decide +kernel)
theorem V_P_read_book_2 : Var C_P_read_book 2 "last" := var_of (by decide +kernel)
theorem V_P_read_book_3 : Var C_P_read_book 3 "row" := var_of (by decide +kernel)
theorem V_P_read_book_4 : Var C_P_read_book 4 "signs" := var_of (by decide +kernel)
theorem V_P_read_book_5 : Var C_P_read_book 5 "words" := var_of (by decide +kernel)
theorem V_P_read_book_6 : Var C_P_read_book 6 "kind" := var_of (by decide +kernel)
theorem V_P_read_book_7 : Var C_P_read_book 7 "one" := var_of (by decide +kernel)
theorem S_P_read_book_1 : Loca C_P_read_book 1 "found" := loc_of (by decide +kernel)
theorem S_P_read_book_2 : Loca C_P_read_book 2 "last" := loc_of (by decide +kernel)
theorem S_P_read_book_3 : Loca C_P_read_book 3 "row" := loc_of (by decide +kernel)
theorem S_P_read_book_4 : Loca C_P_read_book 4 "signs" := loc_of (by decide +kernel)
theorem S_P_read_book_5 : Loca C_P_read_book 5 "words" := loc_of (by decide +kernel)
theorem S_P_read_book_6 : Loca C_P_read_book 6 "kind" := loc_of (by decide +kernel)
theorem S_P_read_book_7 : Loca C_P_read_book 7 "one" := loc_of (by decide +kernel)
theorem G_P_read_book_Book : Glo C_P_read_book "Book" := glo_of (by decide +kernel)
theorem G_P_read_book_KINDS : Glo C_P_read_book "KINDS" := glo_of (by decide +kernel)
theorem G_P_read_book_MOST : Glo C_P_read_book "MOST" := glo_of (by decide +kernel)
theorem G_P_read_book_NoRow : Glo C_P_read_book "NoRow" := glo_of (by decide +kernel)
theorem G_P_read_book_enumerate : Glo C_P_read_book "enumerate" := glo_of (by decide +kernel)
theorem G_P_read_book_isinstance : Glo C_P_read_book "isinstance" := glo_of (by decide +kernel)
theorem G_P_read_book_len : Glo C_P_read_book "len" := glo_of (by decide +kernel)
theorem G_P_read_book_str : Glo C_P_read_book "str" := glo_of (by decide +kernel)
theorem G_P_read_book_told_by : Glo C_P_read_book "told_by" := glo_of (by decide +kernel)
theorem b_P_read_book {G : Cfg} (A : All G) (O : Own) (a_text : Str) (hpre : a_text.length ≤ 1000000 ∧ NoTups O) : SS G C_P_read_book (defBody (top 37)) (frame0 N_P_read_book [dS a_text]) O (fnSm (fun r : Int => (⟨"NoRow", ["row"], [dI r]⟩ : Xd)) (dBook G) G O) (.rt (m_P_read_book a_text)) := by
  unfold m_P_read_book
  have hnt := hpre.2
  have htl := hpre.1
  have hrl := split_cnt htl
  refine ss_when .rt (t_not (t_val (e_callB (k_isi (b := true) ty_str (by decide +kernel)) G_P_read_book_isinstance A.b_isinstance bt_isinstance (a_cons (e_var V_P_read_book_0 rfl) (a_cons (e_tyname G_P_read_book_str A.b_str bt_str) a_nil (fun _ => rfl)) (fun _ => rfl)) (fun _ => rfl)) (fun _ _ => rfl))) (fun _ => nofun) (fun hc_1 => ?_) (fun hc_1 => ?_)
  ·
    exact ss_raiseO A.dx_NoRow ix_NoRow (fun _ _ _ _ _ _ us hl => match us, hl with | [_, _], _ => rfl) (by decide) G_P_read_book_NoRow e_int (fun _ => rfl) (hm_out rfl)
  refine ss_asgT S_P_read_book_1 (fun _ => rfl) (et_lst (an_new (en_list (ds := []) a_nil (Nat.le_of_ble_eq_true rfl)) (fun p_found_2 => (an_new (en_list (ds := []) a_nil (Nat.le_of_ble_eq_true rfl)) (fun p_found_3 => (an_new (en_list (ds := []) a_nil (Nat.le_of_ble_eq_true rfl)) (fun p_found_4 => (an_new (en_list (ds := []) a_nil (Nat.le_of_ble_eq_true rfl)) (fun p_found_5 => an_nil) (fun _ => rfl))) (fun _ => rfl))) (fun _ => rfl))) (fun _ => rfl)) (fun R h => by (repeat' (intro p; specialize h p)); exact ⟨h, Nat.le_of_ble_eq_true rfl⟩)) ?_
  intro p_found_2 p_found_3 p_found_4 p_found_5
  refine ss_asg (f := dI) .rt S_P_read_book_2 (fun _ => rfl) e_int ?_
  intro last_6 hlast_6
  refine ss_loop (Γ := [some (dS a_text), some (dLst G.K [dP p_found_2, dP p_found_3, dP p_found_4, dP p_found_5]), some (dI last_6), none, none, none, none, none]) (df := (dT2 G.K dI dS)) (s0 := (last_6, ([] : List Str), ([] : List (Str × Int × (List Str))), ([] : List (Int × Str × Str × Str)), ([] : List Sy))) (fun s_7 : Int × (List Str) × (List (Str × Int × (List Str))) × (List (Int × Str × Str × Str)) × (List Sy) => [some (dS a_text), some (dLst G.K [dP p_found_2, dP p_found_3, dP p_found_4, dP p_found_5]), some (dI s_7.1), none, none, none, none, none]) (fun (s_7 : Int × (List Str) × (List (Str × Int × (List Str))) × (List (Int × Str × Str × Str)) × (List Sy)) (x_8 : (Int × Str)) => (([some (dS a_text), some (dLst G.K [dP p_found_2, dP p_found_3, dP p_found_4, dP p_found_5]), some (dI s_7.1), none, none, none, none, none]).set 3 (some (dI x_8.1))).set 4 (some (dS x_8.2))) (fun s_7 : Int × (List Str) × (List (Str × Int × (List Str))) × (List (Int × Str × Str × Str)) × (List Sy) => ((p_found_5, oLst (s_7.2.2.2.2.map (dSy G.K))) :: (p_found_4, oLst (s_7.2.2.2.1.map (dT4 G.K dI dS dS dS))) :: (p_found_3, oLst (s_7.2.2.1.map (dT3 G.K dS dI (dVt G.K dS)))) :: (p_found_2, oLst (s_7.2.1.map dS)) :: O)) (ei_enum (f := dS) (xs := (Txt.split a_text ("\n" : Str))) G_P_read_book_enumerate A.b_enumerate (en_lst (en_split (e_var V_P_read_book_0 rfl) e_str (by decide +kernel) (by decide +kernel) (by trivial) (fun _ => rfl) (fun _ => rfl) rfl)) (fun _ => rfl)) (by exact ⟨.inr rfl, .inr rfl, .inr rfl, .inl rfl, .inl rfl, .inl rfl, .inl rfl, .inl rfl, trivial⟩) rfl (fun _ => trivial) (fun s_7 x_8 => (tj_tup (tjs_cons (tj_name S_P_read_book_3) (tjs_cons (tj_name S_P_read_book_4) tjs_nil (fun _ => rfl)) (fun _ => rfl)) (fun _ => rfl) (fun _ => rfl))) ?_ ?_ (fun _ _ => rfl)
  ·
    intro s_7 x_8 pre_9 post_10 hs_11 hf_12
    have hm_13 : x_8 ∈ (enumL (Txt.split a_text ("\n" : Str))) := by rw [hs_11]; simp
    have := mem_enum hm_13
    have hpl_14 : pre_9.length < ((enumL (Txt.split a_text ("\n" : Str)))).length := by rw [hs_11, List.length_append, List.length_cons]; omega
    rw [enumL_len] at hpl_14
    have hxl := rd_xlen htl hm_13
    have hgr := rd_grow hlast_6 hf_12
    have hgr0 := hgr.1
    have hgr1 := hgr.2.1
    have hgr2 := hgr.2.2.1
    have hgr3 := hgr.2.2.2
    refine ss_asg (f := (dLo G.K dS)) Ret.out S_P_read_book_5 (fun _ => rfl) (en_lst (en_split (e_var V_P_read_book_4 rfl) e_str (by decide +kernel) (by decide +kernel) (by trivial) (fun _ => rfl) (fun _ => rfl) rfl)) ?_
    intro words_15 hwords_15
    have hwl := split_pos hwords_15
    refine ss_asg (f := dI) Ret.out S_P_read_book_6 (fun _ => rfl) (e_callB (k_lenVt (xs := K_KINDS) (f := dS)) G_P_read_book_len A.b_len bt_len (a_cons (e_globTS G_P_read_book_KINDS A.c_KINDS) a_nil (fun _ => rfl)) (fun _ => rfl)) ?_
    intro kind_16 hkind_16
    try have hk15 := hkind_16
    refine ss_join (fun s_18 : Int => [some (dS a_text), some (dLst G.K [dP p_found_2, dP p_found_3, dP p_found_4, dP p_found_5]), some (dI s_7.1), some (dI x_8.1), some (dS x_8.2), some ((dLo G.K dS) words_15), some (dI s_18), none]) (fun s_18 : Int => ((p_found_5, oLst (s_7.2.2.2.2.map (dSy G.K))) :: (p_found_4, oLst (s_7.2.2.2.1.map (dT4 G.K dI dS dS dS))) :: (p_found_3, oLst (s_7.2.2.1.map (dT3 G.K dS dI (dVt G.K dS)))) :: (p_found_2, oLst (s_7.2.1.map dS)) :: O)) Ret.out (t_cmp c_inTS (e_nthL (f := dS) (xs := words_15) (e_var V_P_read_book_5 rfl) e_int (by trivial) (fun _ _ => rfl)) (e_globTS G_P_read_book_KINDS A.c_KINDS) rfl) (fun hc_17 => ?_) (fun hc_17 => ?_) ?_
    ·
      refine ss_asg (f := dI) .nx S_P_read_book_6 (fun _ => rfl) (e_tidx G_P_read_book_KINDS A.ci_KINDS (e_nthL (f := dS) (xs := words_15) (e_var V_P_read_book_5 rfl) e_int (by trivial) (fun _ _ => rfl)) (by trivial) (fun _ => rfl) rfl (fun _ => rfl)) ?_
      intro kind_19 hkind_19
      try have hk15 := hkind_19
      exact ss_end (hold_end (by exact ⟨.inr rfl, .inr rfl, .inr rfl, .inr rfl, .inr rfl, .inr rfl, .inr rfl, .inl rfl, trivial⟩))
    ·
      exact ss_end (hold_end (by exact ⟨.inr rfl, .inr rfl, .inr rfl, .inr rfl, .inr rfl, .inr rfl, .inr rfl, .inl rfl, trivial⟩))
    intro s_18 hs_18
    have hkr := kind_rng hk15 hs_18
    refine ss_boolI (b := decide (s_18 = (0 : Int))) Ret.out (fun hk_20 => ?_) (fun hk_20 => ?_)
    ·
      have hek := of_decide_eq_true hk_20
      subst hek
      have hkj := And.intro hwl (Eq.refl (0 : Int))
      refine ss_asg (f := (dO dS)) Ret.out S_P_read_book_7 (fun _ => rfl) (e_callBor (k_P_told_by_at_0 A) (by decide) G_P_read_book_told_by ⟨words_15, (0 : Int), s_7.2.1, (by trivial), rfl, rfl⟩ (free_O fun _ => free_S) (a_cons (e_var V_P_read_book_5 rfl) (a_cons (e_var V_P_read_book_6 rfl) (a_cons (e_ixL (i := (0 : Int)) rfl (e_var V_P_read_book_1 rfl) e_int (fun _ _ => rfl)) a_nil (fun _ => rfl)) (fun _ => rfl)) (fun _ => rfl)) (cv_cons cv1_same (cv_cons cv1_same (cv_cons (cv1_own (G := G) (ds := List.map dS s_7.2.1) (n := 3) rfl) cv_nil))) (fun _ => rfl)) ?_
      intro one_21 hone_21
      refine ss_when Ret.out (t_w (w_or (t_cmp (c_isO (f := dS) (o := one_21) notN_S) (e_var V_P_read_book_7 rfl) e_none rfl) (fun hb_22 => (w_or (t_cmp c_lt (e_var V_P_read_book_6 rfl) (e_var V_P_read_book_2 rfl) rfl) (fun hb_23 => (w_or1 (t_cmp c_eqI (e_callB (k_lenOo (xs := s_7.2.1) (f := dS) (k := 3) rfl) G_P_read_book_len A.b_len bt_len (a_cons (e_ixL (i := (0 : Int)) rfl (e_var V_P_read_book_1 rfl) (e_var V_P_read_book_6 rfl) (fun _ _ => rfl)) a_nil (fun _ => rfl)) (fun _ => rfl)) (e_nthT (f := dI) (xs := K_MOST) (e_globTI G_P_read_book_MOST A.c_MOST) (e_var V_P_read_book_6 rfl) (by trivial) (fun _ _ => rfl)) rfl))))))) (fun _ => nofun) (fun hc_25 => ?_) (fun hc_25 => ?_)
      ·
        refine ss_dropO ?_
        refine ss_dropO ?_
        refine ss_dropO ?_
        refine ss_dropO ?_
        exact ss_raiseO A.dx_NoRow ix_NoRow (fun _ _ _ _ _ _ us hl => match us, hl with | [_, _], _ => rfl) (by decide) G_P_read_book_NoRow (e_var V_P_read_book_3 rfl) (fun _ => rfl) (hm_out rfl)
      refine ss_app (f := dS) (xs := s_7.2.1) (y := (one_21.getD default)) (n := 3) Ret.out rfl (e_ixL (i := (0 : Int)) rfl (e_var V_P_read_book_1 rfl) (e_var V_P_read_book_6 rfl) (fun _ _ => rfl)) (e_eq (e_var V_P_read_book_7 rfl) (o_some (orL hc_25))) (by trivial) (fun _ => rfl) rfl (fun _ => rfl) ?_
      intro found_26 hfound_26
      have hfound_26_l : found_26.length = (s_7.2.1).length + 1 := by rw [hfound_26, List.length_append]; rfl
      refine ss_asg (f := dI) Ret.out S_P_read_book_2 (fun _ => rfl) (e_var V_P_read_book_6 rfl) ?_
      intro last_27 hlast_27
      exact ss_end (hold_end (by exact ⟨.inr rfl, .inr rfl, .inr rfl, .inl rfl, .inl rfl, .inl rfl, .inl rfl, .inl rfl, trivial⟩))
    refine ss_boolI (b := decide (s_18 = (1 : Int))) Ret.out (fun hk_28 => ?_) (fun hk_28 => ?_)
    ·
      have hek := of_decide_eq_true hk_28
      subst hek
      have hkj := And.intro hwl (Eq.refl (1 : Int))
      refine ss_asg (f := (dO (dT3 G.K dS dI (dVt G.K dS)))) Ret.out S_P_read_book_7 (fun _ => rfl) (e_callBorT (k_P_told_by_at_1 A) (by decide) G_P_read_book_told_by ⟨words_15, (1 : Int), s_7.2.1, (by trivial), rfl, rfl⟩ (ty_O fun _ => (ty_T (ty_cons ty_S (ty_cons ty_V (ty_cons (ty_Vt fun _ => ty_S) ty_nil))))) (by (repeat apply nt_lst); assumption) (a_cons (e_var V_P_read_book_5 rfl) (a_cons (e_var V_P_read_book_6 rfl) (a_cons (e_ixL (i := (0 : Int)) rfl (e_var V_P_read_book_1 rfl) e_int (fun _ _ => rfl)) a_nil (fun _ => rfl)) (fun _ => rfl)) (fun _ => rfl)) (cv_cons cv1_same (cv_cons cv1_same (cv_cons (cv1_own (G := G) (ds := List.map dS s_7.2.1) (n := 3) rfl) cv_nil))) (fun _ => rfl)) ?_
      intro one_29 hone_29
      refine ss_when Ret.out (t_w (w_or (t_cmp (c_isO (f := (dT3 G.K dS dI (dVt G.K dS))) (o := one_29) (fun _ _ _ h => notN_T h)) (e_var V_P_read_book_7 rfl) e_none rfl) (fun hb_30 => (w_or (t_cmp c_lt (e_var V_P_read_book_6 rfl) (e_var V_P_read_book_2 rfl) rfl) (fun hb_31 => (w_or1 (t_cmp c_eqI (e_callB (k_lenOo (xs := s_7.2.2.1) (f := (dT3 G.K dS dI (dVt G.K dS))) (k := 2) rfl) G_P_read_book_len A.b_len bt_len (a_cons (e_ixL (i := (1 : Int)) rfl (e_var V_P_read_book_1 rfl) (e_var V_P_read_book_6 rfl) (fun _ _ => rfl)) a_nil (fun _ => rfl)) (fun _ => rfl)) (e_nthT (f := dI) (xs := K_MOST) (e_globTI G_P_read_book_MOST A.c_MOST) (e_var V_P_read_book_6 rfl) (by trivial) (fun _ _ => rfl)) rfl))))))) (fun _ => nofun) (fun hc_33 => ?_) (fun hc_33 => ?_)
      ·
        refine ss_dropO ?_
        refine ss_dropO ?_
        refine ss_dropO ?_
        refine ss_dropO ?_
        exact ss_raiseO A.dx_NoRow ix_NoRow (fun _ _ _ _ _ _ us hl => match us, hl with | [_, _], _ => rfl) (by decide) G_P_read_book_NoRow (e_var V_P_read_book_3 rfl) (fun _ => rfl) (hm_out rfl)
      refine ss_app (f := (dT3 G.K dS dI (dVt G.K dS))) (xs := s_7.2.2.1) (y := (one_29.getD default)) (n := 2) Ret.out rfl (e_ixL (i := (1 : Int)) rfl (e_var V_P_read_book_1 rfl) (e_var V_P_read_book_6 rfl) (fun _ _ => rfl)) (e_eq (e_var V_P_read_book_7 rfl) (o_some (orL hc_33))) (by trivial) (fun _ => rfl) rfl (fun _ => rfl) ?_
      intro found_34 hfound_34
      have hfound_34_l : found_34.length = (s_7.2.2.1).length + 1 := by rw [hfound_34, List.length_append]; rfl
      refine ss_asg (f := dI) Ret.out S_P_read_book_2 (fun _ => rfl) (e_var V_P_read_book_6 rfl) ?_
      intro last_35 hlast_35
      exact ss_end (hold_end (by exact ⟨.inr rfl, .inr rfl, .inr rfl, .inl rfl, .inl rfl, .inl rfl, .inl rfl, .inl rfl, trivial⟩))
    refine ss_boolI (b := decide (s_18 = (2 : Int))) Ret.out (fun hk_36 => ?_) (fun hk_36 => ?_)
    ·
      have hek := of_decide_eq_true hk_36
      subst hek
      have hkj := And.intro hwl (Eq.refl (2 : Int))
      refine ss_asg (f := (dO (dT4 G.K dI dS dS dS))) Ret.out S_P_read_book_7 (fun _ => rfl) (e_callBorT (k_P_told_by_at_2 A) (by decide) G_P_read_book_told_by ⟨words_15, (2 : Int), s_7.2.1, (by trivial), rfl, rfl⟩ (ty_O fun _ => (ty_T (ty_cons ty_V (ty_cons ty_S (ty_cons ty_S (ty_cons ty_S ty_nil)))))) (by (repeat apply nt_lst); assumption) (a_cons (e_var V_P_read_book_5 rfl) (a_cons (e_var V_P_read_book_6 rfl) (a_cons (e_ixL (i := (0 : Int)) rfl (e_var V_P_read_book_1 rfl) e_int (fun _ _ => rfl)) a_nil (fun _ => rfl)) (fun _ => rfl)) (fun _ => rfl)) (cv_cons cv1_same (cv_cons cv1_same (cv_cons (cv1_own (G := G) (ds := List.map dS s_7.2.1) (n := 3) rfl) cv_nil))) (fun _ => rfl)) ?_
      intro one_37 hone_37
      refine ss_when Ret.out (t_w (w_or (t_cmp (c_isO (f := (dT4 G.K dI dS dS dS)) (o := one_37) (fun _ _ _ h => notN_T h)) (e_var V_P_read_book_7 rfl) e_none rfl) (fun hb_38 => (w_or (t_cmp c_lt (e_var V_P_read_book_6 rfl) (e_var V_P_read_book_2 rfl) rfl) (fun hb_39 => (w_or1 (t_cmp c_eqI (e_callB (k_lenOo (xs := s_7.2.2.2.1) (f := (dT4 G.K dI dS dS dS)) (k := 1) rfl) G_P_read_book_len A.b_len bt_len (a_cons (e_ixL (i := (2 : Int)) rfl (e_var V_P_read_book_1 rfl) (e_var V_P_read_book_6 rfl) (fun _ _ => rfl)) a_nil (fun _ => rfl)) (fun _ => rfl)) (e_nthT (f := dI) (xs := K_MOST) (e_globTI G_P_read_book_MOST A.c_MOST) (e_var V_P_read_book_6 rfl) (by trivial) (fun _ _ => rfl)) rfl))))))) (fun _ => nofun) (fun hc_41 => ?_) (fun hc_41 => ?_)
      ·
        refine ss_dropO ?_
        refine ss_dropO ?_
        refine ss_dropO ?_
        refine ss_dropO ?_
        exact ss_raiseO A.dx_NoRow ix_NoRow (fun _ _ _ _ _ _ us hl => match us, hl with | [_, _], _ => rfl) (by decide) G_P_read_book_NoRow (e_var V_P_read_book_3 rfl) (fun _ => rfl) (hm_out rfl)
      refine ss_app (f := (dT4 G.K dI dS dS dS)) (xs := s_7.2.2.2.1) (y := (one_37.getD default)) (n := 1) Ret.out rfl (e_ixL (i := (2 : Int)) rfl (e_var V_P_read_book_1 rfl) (e_var V_P_read_book_6 rfl) (fun _ _ => rfl)) (e_eq (e_var V_P_read_book_7 rfl) (o_some (orL hc_41))) (by trivial) (fun _ => rfl) rfl (fun _ => rfl) ?_
      intro found_42 hfound_42
      have hfound_42_l : found_42.length = (s_7.2.2.2.1).length + 1 := by rw [hfound_42, List.length_append]; rfl
      refine ss_asg (f := dI) Ret.out S_P_read_book_2 (fun _ => rfl) (e_var V_P_read_book_6 rfl) ?_
      intro last_43 hlast_43
      exact ss_end (hold_end (by exact ⟨.inr rfl, .inr rfl, .inr rfl, .inl rfl, .inl rfl, .inl rfl, .inl rfl, .inl rfl, trivial⟩))
    have hek : s_18 = (3 : Int) := by
      have hek0 := of_decide_eq_false hk_20
      have hek1 := of_decide_eq_false hk_28
      have hek2 := of_decide_eq_false hk_36
      omega
    subst hek
    have hkj := And.intro hwl (Eq.refl (3 : Int))
    refine ss_asg (f := (dO (dSy G.K))) Ret.out S_P_read_book_7 (fun _ => rfl) (e_callBorT (k_P_told_by_at_3 A) (by decide) G_P_read_book_told_by ⟨words_15, (3 : Int), s_7.2.1, (by trivial), rfl, rfl⟩ (ty_O fun _ => ty_Sy) (by (repeat apply nt_lst); assumption) (a_cons (e_var V_P_read_book_5 rfl) (a_cons (e_var V_P_read_book_6 rfl) (a_cons (e_ixL (i := (0 : Int)) rfl (e_var V_P_read_book_1 rfl) e_int (fun _ _ => rfl)) a_nil (fun _ => rfl)) (fun _ => rfl)) (fun _ => rfl)) (cv_cons cv1_same (cv_cons cv1_same (cv_cons (cv1_own (G := G) (ds := List.map dS s_7.2.1) (n := 3) rfl) cv_nil))) (fun _ => rfl)) ?_
    intro one_44 hone_44
    refine ss_when Ret.out (t_w (w_or (t_cmp (c_isO (f := (dSy G.K)) (o := one_44) (fun _ _ _ h => notN_T h)) (e_var V_P_read_book_7 rfl) e_none rfl) (fun hb_45 => (w_or (t_cmp c_lt (e_var V_P_read_book_6 rfl) (e_var V_P_read_book_2 rfl) rfl) (fun hb_46 => (w_or1 (t_cmp c_eqI (e_callB (k_lenOo (xs := s_7.2.2.2.2) (f := (dSy G.K)) (k := 0) rfl) G_P_read_book_len A.b_len bt_len (a_cons (e_ixL (i := (3 : Int)) rfl (e_var V_P_read_book_1 rfl) (e_var V_P_read_book_6 rfl) (fun _ _ => rfl)) a_nil (fun _ => rfl)) (fun _ => rfl)) (e_nthT (f := dI) (xs := K_MOST) (e_globTI G_P_read_book_MOST A.c_MOST) (e_var V_P_read_book_6 rfl) (by trivial) (fun _ _ => rfl)) rfl))))))) (fun _ => nofun) (fun hc_48 => ?_) (fun hc_48 => ?_)
    ·
      refine ss_dropO ?_
      refine ss_dropO ?_
      refine ss_dropO ?_
      refine ss_dropO ?_
      exact ss_raiseO A.dx_NoRow ix_NoRow (fun _ _ _ _ _ _ us hl => match us, hl with | [_, _], _ => rfl) (by decide) G_P_read_book_NoRow (e_var V_P_read_book_3 rfl) (fun _ => rfl) (hm_out rfl)
    refine ss_app (f := (dSy G.K)) (xs := s_7.2.2.2.2) (y := (one_44.getD default)) (n := 0) Ret.out rfl (e_ixL (i := (3 : Int)) rfl (e_var V_P_read_book_1 rfl) (e_var V_P_read_book_6 rfl) (fun _ _ => rfl)) (e_eq (e_var V_P_read_book_7 rfl) (o_some (orL hc_48))) (by trivial) (fun _ => rfl) rfl (fun _ => rfl) ?_
    intro found_49 hfound_49
    have hfound_49_l : found_49.length = (s_7.2.2.2.2).length + 1 := by rw [hfound_49, List.length_append]; rfl
    refine ss_asg (f := dI) Ret.out S_P_read_book_2 (fun _ => rfl) (e_var V_P_read_book_6 rfl) ?_
    intro last_50 hlast_50
    exact ss_end (hold_end (by exact ⟨.inr rfl, .inr rfl, .inr rfl, .inl rfl, .inl rfl, .inl rfl, .inl rfl, .inl rfl, trivial⟩))
  intro s_7 he_L0
  have hgd := rd_good hlast_6 he_L0
  refine ss_frzQ (i := 1) (k := 3) (n := 0) rfl rfl rfl ?_
  refine ss_frzQ (i := 1) (k := 2) (n := 0) rfl rfl rfl ?_
  refine ss_frzQ (i := 1) (k := 1) (n := 0) rfl rfl rfl ?_
  refine ss_frzQ (i := 1) (k := 0) (n := 0) rfl rfl rfl ?_
  exact ss_ret (e_make (k_P_Book A) (by decide) G_P_read_book_Book (fun p => ⟨p, _, s_7.2.1, s_7.2.2.1, s_7.2.2.2.1, s_7.2.2.2.2, (by trivial), rfl, rfl, rfl⟩) (a_cons (e_ixL (i := (0 : Int)) rfl (e_var V_P_read_book_1 rfl) e_int (fun _ _ => rfl)) (a_cons (e_ixL (i := (1 : Int)) rfl (e_var V_P_read_book_1 rfl) e_int (fun _ _ => rfl)) (a_cons (e_ixL (i := (2 : Int)) rfl (e_var V_P_read_book_1 rfl) e_int (fun _ _ => rfl)) (a_cons (e_ixL (i := (3 : Int)) rfl (e_var V_P_read_book_1 rfl) e_int (fun _ _ => rfl)) a_nil (fun _ => rfl)) (fun _ => rfl)) (fun _ => rfl)) (fun _ => rfl)) (fun _ => rfl)) (fun _ _ _ h => h)
theorem k_P_read_book {G : Cfg} (A : All G) : Callee G 8 "read_book" (sp_P_read_book G) := by
  refine A.d_P_read_book.callee (N := N_P_read_book) (ps := ["text"]) (scope_of rfl rfl rfl (by decide +kernel)) (fun ds O rk h => ?_) (fun _ _ _ _ _ _ us hl => match us, hl with | [_], _ => rfl) (fun ds O rk h => ?_)
  · obtain ⟨a_text, hp, rfl, rfl⟩ := h; rfl
  · obtain ⟨a_text, hp, rfl, rfl⟩ := h; exact ⟨_, _, _, _, b_P_read_book A O a_text hp, rfl⟩
def N_L_kind_rows : List Str := ["_law_names_here", "_law_kind", "_law_many_here", "_law_cell", "_law_rows", "_law_k", "_law_number", "_law_hour", "_law_one", "_law_two"]
def C_L_kind_rows : Sc := ⟨0, N_L_kind_rows, defScope (top 41), true, true⟩
instance : Calm C_L_kind_rows := ⟨rfl⟩
theorem V_L_kind_rows_0 : Var C_L_kind_rows 0 "_law_names_here" := var_of (by decide +kernel)
theorem V_L_kind_rows_1 : Var C_L_kind_rows 1 "_law_kind" := var_of (by decide +kernel)
theorem V_L_kind_rows_2 : Var C_L_kind_rows 2 "_law_many_here" := var_of (by decide +kernel)
theorem V_L_kind_rows_3 : Var C_L_kind_rows 3 "_law_cell" := var_of (by decide +kernel)
theorem V_L_kind_rows_4 : Var C_L_kind_rows 4 "_law_rows" := var_of (by decide +kernel)
theorem V_L_kind_rows_5 : Var C_L_kind_rows 5 "_law_k" := var_of (by decide +kernel)
theorem V_L_kind_rows_6 : Var C_L_kind_rows 6 "_law_number" := var_of (by decide +kernel)
theorem V_L_kind_rows_7 : Var C_L_kind_rows 7 "_law_hour" := var_of (by decide +kernel)
theorem V_L_kind_rows_8 : Var C_L_kind_rows 8 "_law_one" := var_of (by decide +kernel)
theorem V_L_kind_rows_9 : Var C_L_kind_rows 9 "_law_two" := var_of (by decide +kernel)
theorem S_L_kind_rows_4 : Loca C_L_kind_rows 4 "_law_rows" := loc_of (by decide +kernel)
theorem S_L_kind_rows_5 : Loca C_L_kind_rows 5 "_law_k" := loc_of (by decide +kernel)
theorem S_L_kind_rows_6 : Loca C_L_kind_rows 6 "_law_number" := loc_of (by decide +kernel)
theorem S_L_kind_rows_7 : Loca C_L_kind_rows 7 "_law_hour" := loc_of (by decide +kernel)
theorem S_L_kind_rows_8 : Loca C_L_kind_rows 8 "_law_one" := loc_of (by decide +kernel)
theorem S_L_kind_rows_9 : Loca C_L_kind_rows 9 "_law_two" := loc_of (by decide +kernel)
theorem G_L_kind_rows_range : Glo C_L_kind_rows "range" := glo_of (by decide +kernel)
theorem G_L_kind_rows_str : Glo C_L_kind_rows "str" := glo_of (by decide +kernel)
theorem b_L_kind_rows {G : Cfg} (A : All G) (O : Own) (a_names_here : (List Str)) (a_kind : Int) (a_many_here : Int) (a_cell : Int) (hpre : Nm75 a_names_here ∧ 0 ≤ a_many_here ∧ a_many_here ≤ 122) : SS G C_L_kind_rows (defBody (top 41)) (frame0 N_L_kind_rows [(dLo G.K dS) a_names_here, dI a_kind, dI a_many_here, dI a_cell]) O (fnN (fun r => oLst (List.map dS r)) O) (.rt (m_L_kind_rows a_names_here a_kind a_many_here a_cell)) := by
  unfold m_L_kind_rows
  have hnm := hpre.1
  have hn0 : ([] : List Str).length = 0 := rfl
  have e2 : (" " : Str).length = 1 := by decide +kernel
  have e5 : (" to " : Str).length = 4 := by decide +kernel
  have hnn := hnm.n1
  refine ss_new (od := oLst (([] : List Str).map dS)) S_L_kind_rows_4 (fun _ => rfl) (en_list (ds := []) a_nil (Nat.le_of_ble_eq_true rfl)) ?_
  intro p_rows_1
  refine ss_fold (Γ := [some ((dLo G.K dS) a_names_here), some (dI a_kind), some (dI a_many_here), some (dI a_cell), some (dP p_rows_1), none, none, none, none, none]) (df := dI) (s0 := ([] : List Str)) .rt (fun s_3 : (List Str) => [some ((dLo G.K dS) a_names_here), some (dI a_kind), some (dI a_many_here), some (dI a_cell), some (dP p_rows_1), none, none, none, none, none]) (fun (s_3 : (List Str)) (x_4 : Int) => ([some ((dLo G.K dS) a_names_here), some (dI a_kind), some (dI a_many_here), some (dI a_cell), some (dP p_rows_1), none, none, none, none, none]).set 5 (some (dI x_4))) (fun s_3 : (List Str) => ((p_rows_1, oLst (s_3.map dS)) :: O)) (ei_range G_L_kind_rows_range A.b_range (e_var V_L_kind_rows_2 rfl) (by first | omega | trivial) (fun _ => rfl)) (by exact ⟨.inr rfl, .inr rfl, .inr rfl, .inr rfl, .inr rfl, .inl rfl, .inl rfl, .inl rfl, .inl rfl, .inl rfl, trivial⟩) rfl (fun _ => trivial) (fun s_3 x_4 => (tj_name S_L_kind_rows_5)) ?_ ?_ (fun _ _ => rfl)
  ·
    intro s_3 x_4 pre_5 post_6 hs_7 hf_8
    have hm_9 : x_4 ∈ (upto a_many_here) := by rw [hs_7]; simp
    have := mem_upto hm_9
    have hpl_10 : pre_5.length < ((upto a_many_here)).length := by rw [hs_7, List.length_append, List.length_cons]; omega
    rw [upto_len] at hpl_10
    have hsl : s_3.length = pre_5.length := by rw [hf_8]; exact krl_len (ns := a_names_here) (kind := a_kind) (cell := a_cell)
    refine ss_asg (f := dI) .nx S_L_kind_rows_6 (fun _ => rfl) (e_mod (e_mulR (e_add (e_mod (e_var V_L_kind_rows_3 rfl) (e_powC 100000000000000000000 e_int e_int (by decide +kernel)) (by trivial)) (e_mulL e_int (e_var V_L_kind_rows_5 rfl) (by trivial))) e_int (by trivial)) e_int (by trivial)) ?_
    intro number_11 hnumber_11
    have hnb : 0 ≤ number_11 := by rw [hnumber_11]; omega
    have hw4 := two_le number_11
    have := dec_len (i := ((1000000000000000000 : Int) - (number_11 % (3 : Int)))) (by trivial)
    refine ss_asg (f := dS) .nx S_L_kind_rows_7 (fun _ => rfl) (e_callT (k_strH (i := ((1000000000000000000 : Int) - (number_11 % (3 : Int)))) (by trivial)) G_L_kind_rows_str A.b_str bt_str (a_cons (e_sub (e_powC 1000000000000000000 e_int e_int (by decide +kernel)) (e_mod (e_var V_L_kind_rows_6 rfl) e_int (by trivial))) a_nil (fun _ => rfl)) (fun _ => rfl)) ?_
    intro hour_12 hhour_12
    have hl_hour_12 : hour_12.length ≤ 20 := by rw [hhour_12]; exact dec_len (by omega)
    refine ss_asg (f := dS) .nx S_L_kind_rows_8 (fun _ => rfl) (e_nthL (f := dS) (xs := a_names_here) (e_var V_L_kind_rows_0 rfl) (e_mod (e_divS (e_var V_L_kind_rows_6 rfl) e_int (by trivial)) e_int (by trivial)) (by trivial) (fun _ _ => rfl)) ?_
    intro one_13 hone_13
    have hl_one_13 : one_13.length ≤ 12 := by rw [hone_13]; exact hnm.at (by omega)
    refine ss_asg (f := dS) .nx S_L_kind_rows_9 (fun _ => rfl) (e_nthL (f := dS) (xs := a_names_here) (e_var V_L_kind_rows_0 rfl) (e_sub e_int (e_mod (e_divS (e_var V_L_kind_rows_6 rfl) e_int (by trivial)) e_int (by trivial))) (by trivial) (fun _ _ => rfl)) ?_
    intro two_14 htwo_14
    have hl_two_14 : two_14.length ≤ 12 := by rw [htwo_14]; exact hnm.at (by omega)
    refine ss_if .nx (t_cmp c_eqI (e_var V_L_kind_rows_1 rfl) e_int rfl) (fun hc_15 => ?_) (fun hc_15 => ?_)
    ·
      have := (by decide +kernel : ("saw " : Str).length = 4)
      have := (by decide +kernel : (" " : Str).length = 1)
      have := (by decide +kernel : (" b" : Str).length = 2)
      refine ss_app (f := dS) (xs := s_3) (y := ((((("saw " : Str) ++ one_13) ++ (" " : Str)) ++ hour_12) ++ (" b" : Str))) (n := 0) .nx rfl (e_var V_L_kind_rows_4 rfl) (e_addS (e_addS (e_addS (e_addS e_str (e_var V_L_kind_rows_8 rfl) (by trivial)) e_str (by trivial)) (e_var V_L_kind_rows_7 rfl) (by trivial)) e_str (by trivial)) (by trivial) (fun _ => rfl) rfl (fun _ => rfl) ?_
      intro rows_16 hrows_16
      have hrows_16_l : rows_16.length = (s_3).length + 1 := by rw [hrows_16, List.length_append]; rfl
      exact ss_end (hold_end (by exact ⟨.inr rfl, .inr rfl, .inr rfl, .inr rfl, .inr rfl, .inl rfl, .inl rfl, .inl rfl, .inl rfl, .inl rfl, trivial⟩))
    ·
      refine ss_if .nx (t_cmp c_eqI (e_var V_L_kind_rows_1 rfl) e_int rfl) (fun hc_17 => ?_) (fun hc_17 => ?_)
      ·
        have := (by decide +kernel : ("talk " : Str).length = 5)
        have := (by decide +kernel : (" " : Str).length = 1)
        refine ss_app (f := dS) (xs := s_3) (y := (((((("talk " : Str) ++ hour_12) ++ (" " : Str)) ++ one_13) ++ (nth ([(" " : Str), (" to " : Str)]) ((number_11 / (7 : Int)) % (2 : Int)))) ++ two_14)) (n := 0) .nx rfl (e_var V_L_kind_rows_4 rfl) (e_addS (e_addS (e_addS (e_addS (e_addS e_str (e_var V_L_kind_rows_7 rfl) (by trivial)) e_str (by trivial)) (e_var V_L_kind_rows_8 rfl) (by trivial)) (e_nthL (f := dS) (xs := [(" " : Str), (" to " : Str)]) (en_lst (en_list (ds := [dS (" " : Str), dS (" to " : Str)]) (a_cons e_str (a_cons e_str a_nil (fun _ => rfl)) (fun _ => rfl)) (Nat.le_of_ble_eq_true rfl))) (e_mod (e_divS (e_var V_L_kind_rows_6 rfl) e_int (by trivial)) e_int (by trivial)) (inR_len (m := 2) rfl (by trivial)) (fun _ _ => rfl)) (by trivial)) (e_var V_L_kind_rows_9 rfl) (by trivial)) (by trivial) (fun _ => rfl) rfl (fun _ => rfl) ?_
        intro rows_18 hrows_18
        have hrows_18_l : rows_18.length = (s_3).length + 1 := by rw [hrows_18, List.length_append]; rfl
        exact ss_end (hold_end (by exact ⟨.inr rfl, .inr rfl, .inr rfl, .inr rfl, .inr rfl, .inl rfl, .inl rfl, .inl rfl, .inl rfl, .inl rfl, trivial⟩))
      ·
        refine ss_if .nx (t_cmp c_eqI (e_mod (e_divS (e_var V_L_kind_rows_6 rfl) e_int (by trivial)) e_int (by trivial)) e_int rfl) (fun hc_19 => ?_) (fun hc_19 => ?_)
        ·
          have := (by decide +kernel : (" heard nobody by " : Str).length = 17)
          refine ss_app (f := dS) (xs := s_3) (y := ((one_13 ++ (" heard nobody by " : Str)) ++ hour_12)) (n := 0) .nx rfl (e_var V_L_kind_rows_4 rfl) (e_addS (e_addS (e_var V_L_kind_rows_8 rfl) e_str (by trivial)) (e_var V_L_kind_rows_7 rfl) (by trivial)) (by trivial) (fun _ => rfl) rfl (fun _ => rfl) ?_
          intro rows_20 hrows_20
          have hrows_20_l : rows_20.length = (s_3).length + 1 := by rw [hrows_20, List.length_append]; rfl
          exact ss_end (hold_end (by exact ⟨.inr rfl, .inr rfl, .inr rfl, .inr rfl, .inr rfl, .inl rfl, .inl rfl, .inl rfl, .inl rfl, .inl rfl, trivial⟩))
        ·
          have := (by decide +kernel : (" told nobody from 0 to " : Str).length = 23)
          refine ss_app (f := dS) (xs := s_3) (y := ((one_13 ++ (" told nobody from 0 to " : Str)) ++ hour_12)) (n := 0) .nx rfl (e_var V_L_kind_rows_4 rfl) (e_addS (e_addS (e_var V_L_kind_rows_8 rfl) e_str (by trivial)) (e_var V_L_kind_rows_7 rfl) (by trivial)) (by trivial) (fun _ => rfl) rfl (fun _ => rfl) ?_
          intro rows_21 hrows_21
          have hrows_21_l : rows_21.length = (s_3).length + 1 := by rw [hrows_21, List.length_append]; rfl
          exact ss_end (hold_end (by exact ⟨.inr rfl, .inr rfl, .inr rfl, .inr rfl, .inr rfl, .inl rfl, .inl rfl, .inl rfl, .inl rfl, .inl rfl, trivial⟩))
  intro s_3 he_L0
  exact ss_retO V_L_kind_rows_4 rfl (fun _ _ _ h => h)
theorem k_L_kind_rows {G : Cfg} (A : All G) : Callee G 1 "_law_kind_rows" (sp_L_kind_rows G) := by
  refine A.d_L_kind_rows.callee (N := N_L_kind_rows) (ps := ["_law_names_here", "_law_kind", "_law_many_here", "_law_cell"]) (scope_of rfl rfl rfl (by decide +kernel)) (fun ds O rk h => ?_) (fun _ _ _ _ _ _ us hl => match us, hl with | [_, _, _, _], _ => rfl) (fun ds O rk h => ?_)
  · obtain ⟨a_names_here, a_kind, a_many_here, a_cell, hp, rfl, rfl⟩ := h; rfl
  · obtain ⟨a_names_here, a_kind, a_many_here, a_cell, hp, rfl, rfl⟩ := h; exact ⟨_, _, _, _, b_L_kind_rows A O a_names_here a_kind a_many_here a_cell hp, rfl⟩
def N_P_Book_persons : List Str := ["self"]
def C_P_Book_persons : Sc := ⟨0, N_P_Book_persons, defScope (inClass (top 27) 1), true, true⟩
instance : Calm C_P_Book_persons := ⟨rfl⟩
theorem V_P_Book_persons_0 : Var C_P_Book_persons 0 "self" := var_of (by decide +kernel)
theorem G_P_Book_persons_list : Glo C_P_Book_persons "list" := glo_of (by decide +kernel)
theorem b_P_Book_persons {G : Cfg} (A : All G) (O : Own) (a_self : BookV) : SS G C_P_Book_persons (defBody (inClass (top 27) 1)) (frame0 N_P_Book_persons [(dBook G) a_self]) O (fnN (fun r => oLst (List.map dS r)) O) (.rt (m_P_Book_persons a_self)) := by
  unfold m_P_Book_persons
  exact ss_retN (en_callT k_listL G_P_Book_persons_list A.b_list bt_list (a_cons (e_fld (i := 0) (e_var V_P_Book_persons_0 rfl) (by decide +kernel) rfl rfl A.a_Book_crew (fun _ => rfl)) a_nil (fun _ => rfl)) (fun _ => rfl)) (fun _ _ _ h => h)
theorem k_P_Book_persons {G : Cfg} (A : All G) : CalM G 1 "Book" "persons" (sp_P_Book_persons G) := by
  refine A.d_P_Book_persons.callee (N := N_P_Book_persons) (ps := ["self"]) (scope_of rfl rfl rfl (by decide +kernel)) (fun ds O rk h => ?_) (fun _ _ _ _ _ _ us hl => match us, hl with | [_], _ => rfl) (fun ds O rk h => ?_)
  · obtain ⟨a_self, hp, rfl, rfl⟩ := h; rfl
  · obtain ⟨a_self, hp, rfl, rfl⟩ := h; exact ⟨_, _, _, _, b_P_Book_persons A O a_self, rfl⟩
def N_P_Book_sights : List Str := ["self"]
def C_P_Book_sights : Sc := ⟨0, N_P_Book_sights, defScope (inClass (top 27) 2), true, true⟩
instance : Calm C_P_Book_sights := ⟨rfl⟩
theorem V_P_Book_sights_0 : Var C_P_Book_sights 0 "self" := var_of (by decide +kernel)
theorem G_P_Book_sights_list : Glo C_P_Book_sights "list" := glo_of (by decide +kernel)
theorem b_P_Book_sights {G : Cfg} (A : All G) (O : Own) (a_self : BookV) : SS G C_P_Book_sights (defBody (inClass (top 27) 2)) (frame0 N_P_Book_sights [(dBook G) a_self]) O (fnN (fun r => oLst (List.map (dT3 G.K dS dI (dVt G.K dS)) r)) O) (.rt (m_P_Book_sights a_self)) := by
  unfold m_P_Book_sights
  exact ss_retN (en_callT k_listL G_P_Book_sights_list A.b_list bt_list (a_cons (e_fld (i := 1) (e_var V_P_Book_sights_0 rfl) (by decide +kernel) rfl rfl A.a_Book_views (fun _ => rfl)) a_nil (fun _ => rfl)) (fun _ => rfl)) (fun _ _ _ h => h)
theorem k_P_Book_sights {G : Cfg} (A : All G) : CalM G 1 "Book" "sights" (sp_P_Book_sights G) := by
  refine A.d_P_Book_sights.callee (N := N_P_Book_sights) (ps := ["self"]) (scope_of rfl rfl rfl (by decide +kernel)) (fun ds O rk h => ?_) (fun _ _ _ _ _ _ us hl => match us, hl with | [_], _ => rfl) (fun ds O rk h => ?_)
  · obtain ⟨a_self, hp, rfl, rfl⟩ := h; rfl
  · obtain ⟨a_self, hp, rfl, rfl⟩ := h; exact ⟨_, _, _, _, b_P_Book_sights A O a_self, rfl⟩
def N_P_Book_talks : List Str := ["self"]
def C_P_Book_talks : Sc := ⟨0, N_P_Book_talks, defScope (inClass (top 27) 3), true, true⟩
instance : Calm C_P_Book_talks := ⟨rfl⟩
theorem V_P_Book_talks_0 : Var C_P_Book_talks 0 "self" := var_of (by decide +kernel)
theorem G_P_Book_talks_list : Glo C_P_Book_talks "list" := glo_of (by decide +kernel)
theorem b_P_Book_talks {G : Cfg} (A : All G) (O : Own) (a_self : BookV) : SS G C_P_Book_talks (defBody (inClass (top 27) 3)) (frame0 N_P_Book_talks [(dBook G) a_self]) O (fnN (fun r => oLst (List.map (dT4 G.K dI dS dS dS) r)) O) (.rt (m_P_Book_talks a_self)) := by
  unfold m_P_Book_talks
  exact ss_retN (en_callT k_listL G_P_Book_talks_list A.b_list bt_list (a_cons (e_fld (i := 2) (e_var V_P_Book_talks_0 rfl) (by decide +kernel) rfl rfl A.a_Book_meetings (fun _ => rfl)) a_nil (fun _ => rfl)) (fun _ => rfl)) (fun _ _ _ h => h)
theorem k_P_Book_talks {G : Cfg} (A : All G) : CalM G 1 "Book" "talks" (sp_P_Book_talks G) := by
  refine A.d_P_Book_talks.callee (N := N_P_Book_talks) (ps := ["self"]) (scope_of rfl rfl rfl (by decide +kernel)) (fun ds O rk h => ?_) (fun _ _ _ _ _ _ us hl => match us, hl with | [_], _ => rfl) (fun ds O rk h => ?_)
  · obtain ⟨a_self, hp, rfl, rfl⟩ := h; rfl
  · obtain ⟨a_self, hp, rfl, rfl⟩ := h; exact ⟨_, _, _, _, b_P_Book_talks A O a_self, rfl⟩
def N_P_Book_sayings : List Str := ["self"]
def C_P_Book_sayings : Sc := ⟨0, N_P_Book_sayings, defScope (inClass (top 27) 4), true, true⟩
instance : Calm C_P_Book_sayings := ⟨rfl⟩
theorem V_P_Book_sayings_0 : Var C_P_Book_sayings 0 "self" := var_of (by decide +kernel)
theorem G_P_Book_sayings_list : Glo C_P_Book_sayings "list" := glo_of (by decide +kernel)
theorem b_P_Book_sayings {G : Cfg} (A : All G) (O : Own) (a_self : BookV) : SS G C_P_Book_sayings (defBody (inClass (top 27) 4)) (frame0 N_P_Book_sayings [(dBook G) a_self]) O (fnN (fun r => oLst (List.map (dSy G.K) r)) O) (.rt (m_P_Book_sayings a_self)) := by
  unfold m_P_Book_sayings
  exact ss_retN (en_callT k_listL G_P_Book_sayings_list A.b_list bt_list (a_cons (e_fld (i := 3) (e_var V_P_Book_sayings_0 rfl) (by decide +kernel) rfl rfl A.a_Book_claims (fun _ => rfl)) a_nil (fun _ => rfl)) (fun _ => rfl)) (fun _ _ _ h => h)
theorem k_P_Book_sayings {G : Cfg} (A : All G) : CalM G 1 "Book" "sayings" (sp_P_Book_sayings G) := by
  refine A.d_P_Book_sayings.callee (N := N_P_Book_sayings) (ps := ["self"]) (scope_of rfl rfl rfl (by decide +kernel)) (fun ds O rk h => ?_) (fun _ _ _ _ _ _ us hl => match us, hl with | [_], _ => rfl) (fun ds O rk h => ?_)
  · obtain ⟨a_self, hp, rfl, rfl⟩ := h; rfl
  · obtain ⟨a_self, hp, rfl, rfl⟩ := h; exact ⟨_, _, _, _, b_P_Book_sayings A O a_self, rfl⟩
def N_L_law : List Str := ["_law_script", "_law_cells", "_law_names_here", "_law_many_here", "_law_rows", "_law_name", "_law_due", "_law_kind", "_law_at", "_law_found", "e", "_law_told"]
def C_L_law : Sc := ⟨8, N_L_law, defScope (top 42), true, true⟩
instance : Calm C_L_law := ⟨rfl⟩
theorem nd_L_law : C_L_law.N.Nodup := by decide +kernel
theorem V_L_law_0 : Var C_L_law 0 "_law_script" := var_of (by decide +kernel)
theorem V_L_law_1 : Var C_L_law 1 "_law_cells" := var_of (by decide +kernel)
theorem V_L_law_2 : Var C_L_law 2 "_law_names_here" := var_of (by decide +kernel)
theorem V_L_law_3 : Var C_L_law 3 "_law_many_here" := var_of (by decide +kernel)
theorem V_L_law_4 : Var C_L_law 4 "_law_rows" := var_of (by decide +kernel)
theorem V_L_law_6 : Var C_L_law 6 "_law_due" := var_of (by decide +kernel)
theorem V_L_law_7 : Var C_L_law 7 "_law_kind" := var_of (by decide +kernel)
theorem V_L_law_8 : Var C_L_law 8 "_law_at" := var_of (by decide +kernel)
theorem V_L_law_9 : Var C_L_law 9 "_law_found" := var_of (by decide +kernel)
theorem V_L_law_10 : Var C_L_law 10 "e" := var_of (by decide +kernel)
theorem V_L_law_11 : Var C_L_law 11 "_law_told" := var_of (by decide +kernel)
theorem S_L_law_1 : Loca C_L_law 1 "_law_cells" := loc_of (by decide +kernel)
theorem S_L_law_2 : Loca C_L_law 2 "_law_names_here" := loc_of (by decide +kernel)
theorem S_L_law_3 : Loca C_L_law 3 "_law_many_here" := loc_of (by decide +kernel)
theorem S_L_law_4 : Loca C_L_law 4 "_law_rows" := loc_of (by decide +kernel)
theorem S_L_law_6 : Loca C_L_law 6 "_law_due" := loc_of (by decide +kernel)
theorem S_L_law_7 : Loca C_L_law 7 "_law_kind" := loc_of (by decide +kernel)
theorem S_L_law_8 : Loca C_L_law 8 "_law_at" := loc_of (by decide +kernel)
theorem S_L_law_9 : Loca C_L_law 9 "_law_found" := loc_of (by decide +kernel)
theorem S_L_law_11 : Loca C_L_law 11 "_law_told" := loc_of (by decide +kernel)
theorem G_L_law_NoRow : Glo C_L_law "NoRow" := glo_of (by decide +kernel)
theorem G_L_law__law_kind_rows : Glo C_L_law "_law_kind_rows" := glo_of (by decide +kernel)
theorem G_L_law__law_many : Glo C_L_law "_law_many" := glo_of (by decide +kernel)
theorem G_L_law__law_names : Glo C_L_law "_law_names" := glo_of (by decide +kernel)
theorem G_L_law_len : Glo C_L_law "len" := glo_of (by decide +kernel)
theorem G_L_law_range : Glo C_L_law "range" := glo_of (by decide +kernel)
theorem G_L_law_read_book : Glo C_L_law "read_book" := glo_of (by decide +kernel)
theorem b_L_law {G : Cfg} (A : All G) (O : Own) (a_script : (List Int)) (hpre : a_script.length ≤ 63 ∧ NoTups O) : SS G C_L_law (defBody (top 42)) (frame0 N_L_law [(dLo G.K dI) a_script]) O (fnV dB O) (.rt (m_L_law a_script)) := by
  unfold m_L_law
  have hnt := hpre.2
  replace hpre := hpre.1
  have := @cut_len _ (a_script ++ ([(0 : Int), (0 : Int), (0 : Int), (0 : Int), (0 : Int), (0 : Int), (0 : Int)])) none (some (7 : Int))
  refine ss_asg (f := (dLo G.K dI)) .rt S_L_law_1 (fun _ => rfl) (en_lst (en_cut (f := dI) (xs := (a_script ++ ([(0 : Int), (0 : Int), (0 : Int), (0 : Int), (0 : Int), (0 : Int), (0 : Int)]))) (en_lst (en_cat (f := dI) (xs := a_script) (ys := [(0 : Int), (0 : Int), (0 : Int), (0 : Int), (0 : Int), (0 : Int), (0 : Int)]) (e_var V_L_law_0 rfl) (en_lst (en_list (ds := [dI (0 : Int), dI (0 : Int), dI (0 : Int), dI (0 : Int), dI (0 : Int), dI (0 : Int), dI (0 : Int)]) (a_cons e_int (a_cons e_int (a_cons e_int (a_cons e_int (a_cons e_int (a_cons e_int (a_cons e_int a_nil (fun _ => rfl)) (fun _ => rfl)) (fun _ => rfl)) (fun _ => rfl)) (fun _ => rfl)) (fun _ => rfl)) (fun _ => rfl)) (Nat.le_of_ble_eq_true rfl))) (by trivial))) eo_none (eo_some e_int))) ?_
  intro cells_1 hcells_1
  have hcl : cells_1.length = 7 := by rw [hcells_1]; exact cells75 _
  refine ss_asg (f := (dLo G.K dS)) .rt S_L_law_2 (fun _ => rfl) (e_call (k_L_names A) (by decide) G_L_law__law_names ⟨(nth cells_1 (5 : Int)), True.intro, rfl, rfl⟩ (a_cons (e_nthL (f := dI) (xs := cells_1) (e_var V_L_law_1 rfl) e_int (by trivial) (fun _ _ => rfl)) a_nil (fun _ => rfl)) (fun _ => rfl)) ?_
  intro names_here_2 hnames_here_2
  have hnm_names_here_2 : Nm75 names_here_2 := by first | exact nm75_1 hnames_here_2 | exact nm75_2 (by rw [hnames_here_2, hnames_here_2])
  have hn1_names_here_2 := hnm_names_here_2.n1
  have hn2_names_here_2 := hnm_names_here_2.n2
  have := (by decide +kernel : ("ccccccccccc" : Str).length = 11)
  have := (by decide +kernel : ("w" : Str).length = 1)
  have := (by decide +kernel : ("x" : Str).length = 1)
  refine ss_asg (f := (dLo G.K dS)) .rt S_L_law_2 (fun _ => rfl) (en_lst (en_cat (f := dS) (xs := names_here_2) (ys := [(("ccccccccccc" : Str) ++ ("w" : Str)), (("ccccccccccc" : Str) ++ ("x" : Str))]) (e_var V_L_law_2 rfl) (en_lst (en_list (ds := [dS (("ccccccccccc" : Str) ++ ("w" : Str)), dS (("ccccccccccc" : Str) ++ ("x" : Str))]) (a_cons (e_addS (e_mulC e_str e_int (mulOk_c (by decide) (by decide) (by decide +kernel)) (by decide +kernel) (by decide +kernel)) e_str (by trivial)) (a_cons (e_addS (e_mulC e_str e_int (mulOk_c (by decide) (by decide) (by decide +kernel)) (by decide +kernel) (by decide +kernel)) e_str (by trivial)) a_nil (fun _ => rfl)) (fun _ => rfl)) (Nat.le_of_ble_eq_true rfl))) (by trivial))) ?_
  intro names_here_3 hnames_here_3
  have hnm_names_here_3 : Nm75 names_here_3 := by first | exact nm75_1 hnames_here_3 | exact nm75_2 (by rw [hnames_here_3, hnames_here_2])
  have hn1_names_here_3 := hnm_names_here_3.n1
  have hn2_names_here_3 := hnm_names_here_3.n2
  refine ss_asg (f := (dLo G.K dI)) .rt S_L_law_3 (fun _ => rfl) (en_lst (en_call (k_L_many A) (by decide) G_L_law__law_many ⟨cells_1, (by trivial), rfl, rfl⟩ (a_cons (e_var V_L_law_1 rfl) a_nil (fun _ => rfl)) (fun _ => rfl))) ?_
  intro many_here_4 hmany_here_4
  have hmn := many75 hmany_here_4
  have hml := hmn.len
  have hm0 := hmn.lo
  have hpr := per75 hnm_names_here_3 (i := none) (j := some (nth many_here_4 0))
  have hprl := hpr.len
  have := @cut_len _ names_here_3 none (some (nth many_here_4 (0 : Int)))
  refine ss_newLc (od := oLst (((cut names_here_3 none (some (nth many_here_4 (0 : Int)))).map fun e_5 => (("person " : Str) ++ e_5)).map dS)) S_L_law_4 (swL_of ⟨by decide +kernel, by decide +kernel, rfl, by decide +kernel⟩) (enl_lc (own := [("_law_name", 5)]) (df := dS) (dg := dS) (xs := (cut names_here_3 none (some (nth many_here_4 (0 : Int))))) (g := fun e_5 => (("person " : Str) ++ e_5)) nd_L_law (ei_list (en_lst (en_cut (f := dS) (xs := names_here_3) (e_var V_L_law_2 rfl) eo_none (eo_some (e_nthL (f := dI) (xs := many_here_4) (e_var V_L_law_3 rfl) e_int (by trivial) (fun _ _ => rfl)))))) (fun _ _ => trivial) (blkOk_by (by decide +kernel)) (fun e_5 => (tj_name (loc_of (i := 5) (by decide +kernel)))) (by decide) (fun e_5 hm_6 q_ _ => by have hce := hnm_names_here_3.n12 _ (cut_mem hm_6); have := (by decide +kernel : ("person " : Str).length = 7); exact (e_addS e_str (e_var (var_of (i := 5) (by decide +kernel)) rfl) (by trivial))) (by trivial) (fun _ _ => rfl)) ?_
  intro p_rows_8
  refine ss_asg (f := (dO dI)) .rt S_L_law_6 (fun _ => rfl) e_none ?_
  intro due_10 hdue_10
  refine ss_join (fun s_12 : (Option Int) => [some ((dLo G.K dI) a_script), some ((dLo G.K dI) cells_1), some ((dLo G.K dS) names_here_3), some ((dLo G.K dI) many_here_4), some (dP p_rows_8), none, some ((dO dI) s_12), none, none, none, none, none]) (fun s_12 : (Option Int) => ((p_rows_8, oLst (((cut names_here_3 none (some (nth many_here_4 (0 : Int)))).map fun e_5 => (("person " : Str) ++ e_5)).map dS)) :: O)) .rt (t_cmp c_gt (e_nthL (f := dI) (xs := many_here_4) (e_var V_L_law_3 rfl) e_int (by trivial) (fun _ _ => rfl)) e_int rfl) (fun hc_11 => ?_) (fun hc_11 => ?_) ?_
  ·
    refine ss_asg (f := (dO dI)) .nx S_L_law_6 (fun _ => rfl) e_int ?_
    intro due_13 hdue_13
    exact ss_end (hold_end (by exact ⟨.inr rfl, .inr rfl, .inr rfl, .inr rfl, .inr rfl, .inl rfl, .inr rfl, .inl rfl, .inl rfl, .inl rfl, .inl rfl, .inl rfl, trivial⟩))
  ·
    exact ss_end (hold_end (by exact ⟨.inr rfl, .inr rfl, .inr rfl, .inr rfl, .inr rfl, .inl rfl, .inr rfl, .inl rfl, .inl rfl, .inl rfl, .inl rfl, .inl rfl, trivial⟩))
  intro s_12 hs_12
  refine ss_foldA (Γ := [some ((dLo G.K dI) a_script), some ((dLo G.K dI) cells_1), some ((dLo G.K dS) names_here_3), some ((dLo G.K dI) many_here_4), some (dP p_rows_8), none, some ((dO dI) s_12), none, none, none, none, none]) (df := dI) (s0 := (((cut names_here_3 none (some (nth many_here_4 (0 : Int)))).map fun e_5 => (("person " : Str) ++ e_5)), s_12)) (a0 := p_rows_8) .rt (fun (s_14 : (List Str) × (Option Int)) (ad_16 : Addr) => [some ((dLo G.K dI) a_script), some ((dLo G.K dI) cells_1), some ((dLo G.K dS) names_here_3), some ((dLo G.K dI) many_here_4), some (dP ad_16), none, some ((dO dI) s_14.2), none, none, none, none, none]) (fun (s_14 : (List Str) × (Option Int)) (ad_16 : Addr) (x_15 : Int) => ([some ((dLo G.K dI) a_script), some ((dLo G.K dI) cells_1), some ((dLo G.K dS) names_here_3), some ((dLo G.K dI) many_here_4), some (dP ad_16), none, some ((dO dI) s_14.2), none, none, none, none, none]).set 7 (some (dI x_15))) (fun (s_14 : (List Str) × (Option Int)) (ad_16 : Addr) => ((ad_16, oLst (s_14.1.map dS)) :: O)) (ei_range2 G_L_law_range A.b_range (a_cons e_int (a_cons e_int a_nil (fun _ => rfl)) (fun _ => rfl)) (by first | omega | trivial) (fun _ => rfl) (fun _ => rfl)) (by exact ⟨.inr rfl, .inr rfl, .inr rfl, .inr rfl, .inr rfl, .inl rfl, .inr rfl, .inl rfl, .inl rfl, .inl rfl, .inl rfl, .inl rfl, trivial⟩) rfl (fun _ _ => trivial) (fun s_14 ad_16 x_15 => (tj_name S_L_law_7)) ?_ ?_ (fun _ _ => rfl)
  ·
    intro s_14 ad_16 x_15 pre_17 post_18 hs_19 hf_20
    have hm_21 : x_15 ∈ (range2 (1 : Int) (4 : Int)) := by rw [hs_19]; simp
    have := mem_range2 hm_21
    have hpl_22 : pre_17.length < ((range2 (1 : Int) (4 : Int))).length := by rw [hs_19, List.length_append, List.length_cons]; omega
    rw [range2_len] at hpl_22
    have hrw : Rw75 s_14.1 (26 + 122 * pre_17.length) := by rw [hf_20]; exact rw75_fold (ns := names_here_3) (many := many_here_4) (cell := nth cells_1 6) (fun _ _ => rfl) hnm_names_here_3 hmn (fun y hy => by have := mem_range2 (show y ∈ range2 (1 : Int) 4 from hs_19 ▸ List.mem_append_left _ hy); omega) hpr
    have hrwl := hrw.len
    have hmx := hmn.hi x_15 (by omega)
    have hkl := krl_len2 names_here_3 x_15 (nth many_here_4 x_15) (nth cells_1 6)
    have hpl3 : pre_17.length < 3 := by simpa [range2_len] using hpl_22
    refine ss_join (fun s_26 : (Option Int) => [some ((dLo G.K dI) a_script), some ((dLo G.K dI) cells_1), some ((dLo G.K dS) names_here_3), some ((dLo G.K dI) many_here_4), some (dP ad_16), none, some ((dO dI) s_26), some (dI x_15), none, none, none, none]) (fun s_26 : (Option Int) => ((ad_16, oLst (s_14.1.map dS)) :: O)) .nx (t_w (w_and (t_cmp (c_isO (f := dI) (o := s_14.2) notN_I) (e_var V_L_law_6 rfl) e_none rfl) (fun hb_23 => (w_and1 (t_cmp c_gt (e_nthL (f := dI) (xs := many_here_4) (e_var V_L_law_3 rfl) (e_var V_L_law_7 rfl) (by trivial) (fun _ _ => rfl)) (e_nthL (f := dI) (xs := [(24 : Int), (24 : Int), (120 : Int), (60 : Int)]) (en_lst (en_list (ds := [dI (24 : Int), dI (24 : Int), dI (120 : Int), dI (60 : Int)]) (a_cons e_int (a_cons e_int (a_cons e_int (a_cons e_int a_nil (fun _ => rfl)) (fun _ => rfl)) (fun _ => rfl)) (fun _ => rfl)) (Nat.le_of_ble_eq_true rfl))) (e_var V_L_law_7 rfl) (inR_len (m := 4) rfl (by trivial)) (fun _ _ => rfl)) rfl))))) (fun hc_25 => ?_) (fun hc_25 => ?_) ?_
    ·
      refine ss_asg (f := (dO dI)) .nx S_L_law_6 (fun _ => rfl) (e_add (e_callB (k_lenOo (xs := s_14.1) (f := dS) (k := 0) rfl) G_L_law_len A.b_len bt_len (a_cons (e_var V_L_law_4 rfl) a_nil (fun _ => rfl)) (fun _ => rfl)) (e_nthL (f := dI) (xs := [(24 : Int), (24 : Int), (120 : Int), (60 : Int)]) (en_lst (en_list (ds := [dI (24 : Int), dI (24 : Int), dI (120 : Int), dI (60 : Int)]) (a_cons e_int (a_cons e_int (a_cons e_int (a_cons e_int a_nil (fun _ => rfl)) (fun _ => rfl)) (fun _ => rfl)) (fun _ => rfl)) (Nat.le_of_ble_eq_true rfl))) (e_var V_L_law_7 rfl) (inR_len (m := 4) rfl (by trivial)) (fun _ _ => rfl))) ?_
      intro due_27 hdue_27
      exact ss_end (hold_end (by exact ⟨.inr rfl, .inr rfl, .inr rfl, .inr rfl, .inr rfl, .inl rfl, .inr rfl, .inr rfl, .inl rfl, .inl rfl, .inl rfl, .inl rfl, trivial⟩))
    ·
      exact ss_end (hold_end (by exact ⟨.inr rfl, .inr rfl, .inr rfl, .inr rfl, .inr rfl, .inl rfl, .inr rfl, .inr rfl, .inl rfl, .inl rfl, .inl rfl, .inl rfl, trivial⟩))
    intro s_26 hs_26
    refine ss_new (od := oLst ((s_14.1 ++ (m_L_kind_rows names_here_3 x_15 (nth many_here_4 x_15) (nth cells_1 (6 : Int)))).map dS)) S_L_law_4 (fun _ => rfl) (en_catO (f := dS) (xs := s_14.1) (ys := (m_L_kind_rows names_here_3 x_15 (nth many_here_4 x_15) (nth cells_1 (6 : Int)))) (n := 0) rfl (e_var V_L_law_4 rfl) (en_lst (en_call (k_L_kind_rows A) (by decide) G_L_law__law_kind_rows ⟨names_here_3, x_15, (nth many_here_4 x_15), (nth cells_1 (6 : Int)), (by trivial), rfl, rfl⟩ (a_cons (e_var V_L_law_2 rfl) (a_cons (e_var V_L_law_7 rfl) (a_cons (e_nthL (f := dI) (xs := many_here_4) (e_var V_L_law_3 rfl) (e_var V_L_law_7 rfl) (by trivial) (fun _ _ => rfl)) (a_cons (e_nthL (f := dI) (xs := cells_1) (e_var V_L_law_1 rfl) e_int (by trivial) (fun _ _ => rfl)) a_nil (fun _ => rfl)) (fun _ => rfl)) (fun _ => rfl)) (fun _ => rfl)) (fun _ => rfl))) (by trivial)) ?_
    intro p_rows_28
    refine ss_pull (n := 1) rfl ?_
    refine ss_dropO ?_
    exact ss_end (hold_endA (Γ1 := fun ad_ => [some ((dLo G.K dI) a_script), some ((dLo G.K dI) cells_1), some ((dLo G.K dS) names_here_3), some ((dLo G.K dI) many_here_4), some (dP ad_), none, some ((dO dI) s_26), none, none, none, none, none]) (O1 := fun ad_ => ((ad_, oLst ((s_14.1 ++ (m_L_kind_rows names_here_3 x_15 (nth many_here_4 x_15) (nth cells_1 (6 : Int)))).map dS)) :: O)) p_rows_28 (by exact ⟨.inr rfl, .inr rfl, .inr rfl, .inr rfl, .inr rfl, .inl rfl, .inr rfl, .inl rfl, .inl rfl, .inl rfl, .inl rfl, .inl rfl, trivial⟩))
  intro s_14 ad_16 he_L0
  have hrw : Rw75 s_14.1 (26 + 122 * (range2 (1 : Int) 4).length) := by rw [he_L0]; exact rw75_fold (ns := names_here_3) (many := many_here_4) (cell := nth cells_1 6) (fun _ _ => rfl) hnm_names_here_3 hmn (fun y hy => by have := mem_range2 hy; omega) hpr
  have hrw4 : Rw75 s_14.1 400 := ⟨Nat.le_trans hrw.len (by decide), hrw.row⟩
  have hrwl := hrw4.len
  have hbad := bad75 (hnm_names_here_3.at (i := 0) (by decide))
  refine ss_join (fun s_33 : (List Str) × (Option Int) => [some ((dLo G.K dI) a_script), some ((dLo G.K dI) cells_1), some ((dLo G.K dS) names_here_3), some ((dLo G.K dI) many_here_4), some (dP ad_16), none, some ((dO dI) s_33.2), none, none, none, none, none]) (fun s_33 : (List Str) × (Option Int) => ((ad_16, oLst (s_33.1.map dS)) :: O)) .rt (t_w (w_and (t_cmp c_eqI (e_mod (e_nthL (f := dI) (xs := cells_1) (e_var V_L_law_1 rfl) e_int (by trivial) (fun _ _ => rfl)) e_int (by trivial)) e_int rfl) (fun hb_30 => (w_and1 (t_cmp c_gt (e_callB (k_lenOo (xs := s_14.1) (f := dS) (k := 0) rfl) G_L_law_len A.b_len bt_len (a_cons (e_var V_L_law_4 rfl) a_nil (fun _ => rfl)) (fun _ => rfl)) (e_nthL (f := dI) (xs := many_here_4) (e_var V_L_law_3 rfl) e_int (by trivial) (fun _ _ => rfl)) rfl))))) (fun hc_32 => ?_) (fun hc_32 => ?_) ?_
  ·
    refine ss_asg (f := dI) .nx S_L_law_8 (fun _ => rfl) (e_add (e_nthL (f := dI) (xs := many_here_4) (e_var V_L_law_3 rfl) e_int (by trivial) (fun _ _ => rfl)) (e_mod (e_divS (e_nthL (f := dI) (xs := cells_1) (e_var V_L_law_1 rfl) e_int (by trivial) (fun _ _ => rfl)) e_int (by trivial)) (e_sub (e_callB (k_lenOo (xs := s_14.1) (f := dS) (k := 0) rfl) G_L_law_len A.b_len bt_len (a_cons (e_var V_L_law_4 rfl) a_nil (fun _ => rfl)) (fun _ => rfl)) (e_nthL (f := dI) (xs := many_here_4) (e_var V_L_law_3 rfl) e_int (by trivial) (fun _ _ => rfl))) (by trivial))) ?_
    intro at_34 hat_34
    have hat : 0 ≤ at_34 ∧ at_34 < (s_14.1.length : Int) := by rw [hat_34]; exact at75 hc_32 (by omega)
    have := (by decide +kernel : (" knew by 1" : Str).length = 10)
    have := (by decide +kernel : ("00000000000000000" : Str).length = 17)
    have := (by decide +kernel : ("1" : Str).length = 1)
    refine ss_setL (f := dS) (xs := s_14.1) (y := ((((nth names_here_3 (0 : Int)) ++ (" knew by 1" : Str)) ++ ("00000000000000000" : Str)) ++ ("1" : Str))) (n := 0) .nx rfl (e_var V_L_law_4 rfl) (e_var V_L_law_8 rfl) (e_addS (e_addS (e_addS (e_nthL (f := dS) (xs := names_here_3) (e_var V_L_law_2 rfl) e_int (by trivial) (fun _ _ => rfl)) e_str (by trivial)) (e_mulC e_str e_int (mulOk_c (by decide) (by decide) (by decide +kernel)) (by decide +kernel) (by decide +kernel)) (by trivial)) e_str (by trivial)) (by trivial) (fun _ => rfl) (fun _ => rfl) (fun _ _ => rfl) ?_
    intro rows_35 hrows_35
    refine ss_if .nx (t_w (w_or (t_cmp (c_isO (f := dI) (o := s_14.2) notN_I) (e_var V_L_law_6 rfl) e_none rfl) (fun hb_36 => (w_or1 (t_cmp c_lt (e_var V_L_law_8 rfl) (e_eq (e_var V_L_law_6 rfl) (o_some hb_36)) rfl))))) (fun hc_38 => ?_) (fun hc_38 => ?_)
    ·
      refine ss_asg (f := (dO dI)) .nx S_L_law_6 (fun _ => rfl) (e_var V_L_law_8 rfl) ?_
      intro due_39 hdue_39
      exact ss_end (hold_end (by exact ⟨.inr rfl, .inr rfl, .inr rfl, .inr rfl, .inr rfl, .inl rfl, .inr rfl, .inl rfl, .inl rfl, .inl rfl, .inl rfl, .inl rfl, trivial⟩))
    ·
      exact ss_end (hold_end (by exact ⟨.inr rfl, .inr rfl, .inr rfl, .inr rfl, .inr rfl, .inl rfl, .inr rfl, .inl rfl, .inl rfl, .inl rfl, .inl rfl, .inl rfl, trivial⟩))
  ·
    exact ss_end (hold_end (by exact ⟨.inr rfl, .inr rfl, .inr rfl, .inr rfl, .inr rfl, .inl rfl, .inr rfl, .inl rfl, .inl rfl, .inl rfl, .inl rfl, .inl rfl, trivial⟩))
  intro s_33 hs_33
  have hrf : Rw75 s_33.1 400 := by
    rw [hs_33]; split
    · simp only [lt]; split <;> exact hrw4.set _ (bad75_len hnm_names_here_3)
    · exact hrw4
  have hsm := hrf.sum
  have hsm2 := And.intro hsm.1 hnt
  have hsm3 := hsm.2
  refine ss_freeze (G := G) (i := 4) rfl ?_
  refine ss_asg (f := dU) .rt S_L_law_9 (fun _ => rfl) e_none ?_
  intro found_40 hfound_40
  refine ss_sum .rt (m_P_read_book (Str.join ("\n" : Str) s_33.1)) (fun xr_41 hy_43 => ?_) (fun y_42 hy_43 => ?_)
  ·
    refine ss_tryXR (n := "e") (xd := ⟨"NoRow", ["row"], [dI xr_41]⟩) (Γ1 := [some ((dLo G.K dI) a_script), some ((dLo G.K dI) cells_1), some ((dLo G.K dS) names_here_3), some ((dLo G.K dI) many_here_4), some ((dLo G.K dS) s_33.1), none, some ((dO dI) s_33.2), none, none, some (dU found_40), none, none]) (O1 := O) (i := 10) rfl (by decide +kernel) (by decide +kernel) (by decide +kernel) G_L_law_NoRow A.xc_NoRow_NoRow ?_ ?_ (fun _ _ _ _ z => z)
    ·
      exact ss_exA (ex_call (k_P_read_book A) (by decide) G_L_law_read_book ⟨(Str.join ("\n" : Str) s_33.1), (by trivial), rfl, by rw [hy_43]; rfl⟩ (a_cons (e_join e_str (e_var V_L_law_4 rfl) (by trivial) (fun _ => rfl) (fun _ => rfl) rfl) a_nil (fun _ => rfl)) (fun _ => rfl)) S_L_law_9 (fun _ => rfl) hm_try
    ·
      exact ss_ret (e_and (e_cmp (c_notO (f := dI) (o := s_33.2) notN_I) (e_var ((V_L_law_6).at) rfl) e_none rfl) (fun hb_44 => (e_bool1 (e_cmp c_eqI (e_xf1 A.xf_NoRow_row (e_var ((V_L_law_10).at) rfl) (fun _ => rfl)) (e_eq (e_var ((V_L_law_6).at) rfl) (o_some (notT hb_44))) rfl)))) (fun _ _ _ h => h)
  ·
    refine ss_tryAsg (d := (dBook G) y_42) S_L_law_9 (fun _ => rfl) (e_call (k_P_read_book A) (by decide) G_L_law_read_book ⟨(Str.join ("\n" : Str) s_33.1), (by trivial), rfl, by rw [hy_43]; rfl⟩ (a_cons (e_join e_str (e_var V_L_law_4 rfl) (by trivial) (fun _ => rfl) (fun _ => rfl) rfl) a_nil (fun _ => rfl)) (fun _ => rfl)) ?_
    refine ss_asg (f := (dLo G.K dI)) .rt S_L_law_11 (fun _ => rfl) (en_lst (en_list (ds := [dI ((m_P_Book_persons y_42).length : Int), dI ((m_P_Book_sights y_42).length : Int), dI ((m_P_Book_talks y_42).length : Int), dI ((m_P_Book_sayings y_42).length : Int)]) (a_cons (e_callB (k_lenLo (xs := (m_P_Book_persons y_42)) (f := dS)) G_L_law_len A.b_len bt_len (a_cons (en_lst (en_meth0 (k_P_Book_persons A) (by decide) (e_var V_L_law_9 rfl) (by decide +kernel) ⟨y_42, True.intro, rfl, rfl⟩ (fun _ => ⟨_, rfl⟩))) a_nil (fun _ => rfl)) (fun _ => rfl)) (a_cons (e_callB (k_lenLo (xs := (m_P_Book_sights y_42)) (f := (dT3 G.K dS dI (dVt G.K dS)))) G_L_law_len A.b_len bt_len (a_cons (en_lst (en_meth0 (k_P_Book_sights A) (by decide) (e_var V_L_law_9 rfl) (by decide +kernel) ⟨y_42, True.intro, rfl, rfl⟩ (fun _ => ⟨_, rfl⟩))) a_nil (fun _ => rfl)) (fun _ => rfl)) (a_cons (e_callB (k_lenLo (xs := (m_P_Book_talks y_42)) (f := (dT4 G.K dI dS dS dS))) G_L_law_len A.b_len bt_len (a_cons (en_lst (en_meth0 (k_P_Book_talks A) (by decide) (e_var V_L_law_9 rfl) (by decide +kernel) ⟨y_42, True.intro, rfl, rfl⟩ (fun _ => ⟨_, rfl⟩))) a_nil (fun _ => rfl)) (fun _ => rfl)) (a_cons (e_callB (k_lenLo (xs := (m_P_Book_sayings y_42)) (f := (dSy G.K))) G_L_law_len A.b_len bt_len (a_cons (en_lst (en_meth0 (k_P_Book_sayings A) (by decide) (e_var V_L_law_9 rfl) (by decide +kernel) ⟨y_42, True.intro, rfl, rfl⟩ (fun _ => ⟨_, rfl⟩))) a_nil (fun _ => rfl)) (fun _ => rfl)) a_nil (fun _ => rfl)) (fun _ => rfl)) (fun _ => rfl)) (fun _ => rfl)) (Nat.le_of_ble_eq_true rfl))) ?_
    intro told_46 htold_46
    have htold_46_l : told_46.length = 4 := by rw [htold_46]; rfl
    exact ss_ret (e_and (e_cmp (c_isO (f := dI) (o := s_33.2) notN_I) (e_var V_L_law_6 rfl) e_none rfl) (fun hb_47 => (e_bool1 (e_cmp (c_eqDat (f := (dLo G.K dI)) (a := told_46) (b := many_here_4) (dat_lst dat_int) (by decide)) (e_var V_L_law_11 rfl) (e_var V_L_law_3 rfl) rfl)))) (fun _ _ _ h => h)
end Kn
namespace Kn
open PySem PySem.Spec L2
structure TalkOk (t : Talk) : Prop where
  h : 0 ≤ t.1 ∧ t.1 ≤ 1000000000000000000
  a : t.2.1.length ≤ 12
  b : t.2.2.1.length ≤ 12
structure SgOk (x : Sight) : Prop where
  a : x.1.length ≤ 12
  h : 0 ≤ x.2.1 ∧ x.2.1 ≤ 1000000000000000000
  n : x.2.2.length ≤ 6
  w : ∀ w ∈ x.2.2, w.length ≤ 12
structure SyOk (s : Sy) : Prop where
  a : s.who.length ≤ 12
  b : s.other.length ≤ 12
  h1 : 0 ≤ s.h1 ∧ s.h1 ≤ 1000000000000000000
  h2 : 0 ≤ s.h2 ∧ s.h2 ≤ 1000000000000000000
  ho : ∀ i, s.ho = some i → 0 ≤ i ∧ i ≤ 1000000000000000000
theorem SyOk.od {s : Sy} (h : SyOk s) : 0 ≤ s.ho.getD default ∧ s.ho.getD default ≤ 1000000000000000000 := by
  cases e : s.ho with
  | none => exact ⟨by decide, by decide⟩
  | some i => exact h.ho i e
structure BkTx (b : BookV) : Prop where
  c : ∀ n ∈ b.crew, n.length ≤ 12
  s : ∀ x ∈ b.views, SgOk x
  t : ∀ x ∈ b.meetings, TalkOk x
  y : ∀ x ∈ b.claims, SyOk x
  k : BkOk b
theorem name_len {t : Str} (h : m_P_is_name (Va.str t) = true) : 1 ≤ t.length ∧ t.length ≤ 12 := by
  unfold m_P_is_name at h
  split at h
  · cases h
  · rename_i hn
    have e : (Va.str t).asS = t := rfl
    rw [e] at hn
    simp only [Bool.not_eq_true, Bool.or_eq_false_iff, Bool.not_eq_false', Bool.and_eq_true, decide_eq_true_eq] at hn
    omega
theorem tx_hour {i : Int} (h : m_P_is_hour (Va.int i) = true) : 0 ≤ i ∧ i ≤ 1000000000000000000 := by
  rw [hour_iff, Bool.and_eq_true, decide_eq_true_eq, decide_eq_true_eq] at h
  exact h
theorem len0 : ("" : Str).length ≤ 12 := by decide +kernel
theorem z18 : (0 : Int) ≤ 0 ∧ (0 : Int) ≤ 1000000000000000000 := by decide
theorem tx_say {s : Sy} {p : List Str} (hp : ∀ n ∈ p, n.length ≤ 12) (h : m_P_is_saying s p = true) : SyOk s := by
  have hw := hp _ (say_who h)
  unfold m_P_is_saying at h
  split at h
  · cases h
  · cases s with
    | knew q z =>
      have e1 : decide ((Sy.knew q z).kd = ("silent" : Str)) = false := by show decide (("knew" : Str) = ("silent" : Str)) = false; decide +kernel
      have e2 : decide ((Sy.knew q z).kd = ("knew" : Str)) = true := by show decide (("knew" : Str) = ("knew" : Str)) = true; decide +kernel
      rw [e1, e2] at h
      have h' : m_P_is_hour (Va.int z) = true := h
      exact ⟨hw, len0, tx_hour h', z18, fun i hi => by cases hi⟩
    | unheard q z =>
      have e1 : decide ((Sy.unheard q z).kd = ("silent" : Str)) = false := by show decide (("unheard" : Str) = ("silent" : Str)) = false; decide +kernel
      have e2 : decide ((Sy.unheard q z).kd = ("knew" : Str)) = false := by show decide (("unheard" : Str) = ("knew" : Str)) = false; decide +kernel
      have e3 : decide ((Sy.unheard q z).kd = ("unheard" : Str)) = true := by show decide (("unheard" : Str) = ("unheard" : Str)) = true; decide +kernel
      rw [e1, e2, e3] at h
      refine ⟨hw, len0, z18, z18, fun i hi => ?_⟩
      have hz : z = some i := hi
      subst hz
      exact tx_hour h
    | silent q a b =>
      have e1 : decide ((Sy.silent q a b).kd = ("silent" : Str)) = true := by show decide (("silent" : Str) = ("silent" : Str)) = true; decide +kernel
      rw [e1, if_pos rfl] at h
      simp only [Bool.and_eq_true] at h
      exact ⟨hw, len0, tx_hour h.2.1, tx_hour h.2.2.1, fun i hi => by cases hi⟩
    | barred q r =>
      have e1 : decide ((Sy.barred q r).kd = ("silent" : Str)) = false := by show decide (("barred" : Str) = ("silent" : Str)) = false; decide +kernel
      have e2 : decide ((Sy.barred q r).kd = ("knew" : Str)) = false := by show decide (("barred" : Str) = ("knew" : Str)) = false; decide +kernel
      have e3 : decide ((Sy.barred q r).kd = ("unheard" : Str)) = false := by show decide (("barred" : Str) = ("unheard" : Str)) = false; decide +kernel
      rw [e1, e2, e3] at h
      have h' : (decide ((Sy.barred q r).kd = ("barred" : Str)) && m_P_are_two q r p) = true := h
      rw [Bool.and_eq_true] at h'
      have h2 := h'.2
      unfold m_P_are_two at h2
      simp only [Bool.and_eq_true, decide_eq_true_eq] at h2
      exact ⟨hw, hp _ h2.2.1, z18, z18, fun i hi => by cases hi⟩
theorem tx_of {p : List Str} {s : List Sight} {t : List Talk} {y : List Sy} (h : goodBook p s t y) : BkTx (m_P_Book p s t y) := by
  have hk := bk_of h
  obtain ⟨h1, h2, h3, h4⟩ := h
  unfold m_P_are_persons at h1
  rw [loop_all (fun x => m_P_is_name (Va.str x))] at h1
  obtain ⟨_, a2, _⟩ := lp_all h1
  unfold m_P_are_all_at_is_sight at h2
  rw [loop_all (fun x => m_P_is_sight x p)] at h2
  obtain ⟨_, b2, _⟩ := lp_all h2
  unfold m_P_are_all_at_is_talk at h3
  rw [loop_all (fun x => m_P_is_talk x p)] at h3
  obtain ⟨_, c2, _⟩ := lp_all h3
  unfold m_P_are_all_at_is_saying at h4
  rw [loop_all (fun x => m_P_is_saying x p)] at h4
  obtain ⟨_, d2, _⟩ := lp_all h4
  have hp : ∀ n ∈ p, n.length ≤ 12 := fun n hn => (name_len (a2 n hn)).2
  refine ⟨hp, fun x hx => ?_, fun x hx => ?_, fun x hx => tx_say hp (d2 x hx), hk⟩
  · have h := b2 x hx
    unfold m_P_is_sight at h
    rw [tup_of3] at h
    simp only [Bool.not_true, Bool.false_eq_true, if_false, Bool.and_eq_true, decide_eq_true_eq] at h
    obtain ⟨q1, q2, q3⟩ := h
    unfold m_P_is_tale at q3
    rw [loop_all (fun x => m_P_is_name (Va.str x))] at q3
    obtain ⟨r1, r2, _⟩ := lp_all q3
    simp only [Bool.not_true, Bool.false_or, Bool.not_eq_false', Bool.and_eq_true, decide_eq_true_eq] at r1
    exact ⟨hp _ q1, tx_hour q2, by omega, fun w hw => (name_len (r2 w hw)).2⟩
  · have h := c2 x hx
    unfold m_P_is_talk at h
    rw [tup_of4] at h
    unfold m_P_are_two at h
    simp only [Bool.not_true, Bool.false_eq_true, if_false, Bool.and_eq_true, decide_eq_true_eq] at h
    exact ⟨tx_hour h.1, hp _ h.2.1.1, hp _ h.2.1.2.1⟩
instance decParts : DecidableEq (List Str × List (Str × Int × List Str) × List (Int × Str × Str × Str) × List Sy) := @instDecidableEqProd _ _ inferInstance (@instDecidableEqProd _ _ inferInstance (@instDecidableEqProd _ _ inferInstance inferInstance))
theorem pass_loop {α R : Type} {p : α → Bool} {r : R} : ∀ {xs : List α}, (∀ x ∈ xs, p x = true) → loopL (R := R) (fun (_ : Unit) (x : α) => if (!p x) = true then Ret.rt r else Ret.nx ()) xs () = .nx ()
  | [], _ => rfl
  | y :: xs, h => by
    rw [loopL, h y List.mem_cons_self]
    exact pass_loop fun x hx => h x (List.mem_cons_of_mem _ hx)
theorem num_head : ∀ (n : Nat), 1 ≤ n → ∃ c r, TL.numL n = c :: r ∧ c ≠ 48 := by
  intro n
  induction n using Nat.strongRecOn with
  | ind n ih =>
    intro h
    by_cases h10 : n < 10
    · exact ⟨48 + n, [], TL.numL_lt h10, by omega⟩
    · obtain ⟨c, r, e, hc⟩ := ih (n / 10) (by omega) (by omega)
      exact ⟨c, r ++ [48 + n % 10], by rw [TL.numL_step (by omega), e]; rfl, hc⟩
theorem dec_nat {h : Int} (h0 : 0 ≤ h) : decS h = Str.ofString (toString ((h.toNat : Nat) : Int)) := by
  unfold decS
  rw [Int.toNat_of_nonneg h0]
theorem dec_tl {h : Int} (h0 : 0 ≤ h) : TL.tl (decS h) = TL.numL h.toNat := by rw [dec_nat h0, TL.tl_num]
theorem dec_len19 {h : Int} (hh : 0 ≤ h ∧ h ≤ 1000000000000000000) : 1 ≤ (decS h).length ∧ (decS h).length ≤ 19 := by
  rw [TL.len_tl, dec_tl hh.1]
  refine ⟨List.length_pos_iff.mpr (TL.numL_ne _), TL.numL_len (by decide) ?_⟩
  have : (10 : Nat) ^ 19 = 10000000000000000000 := by decide
  omega
theorem hour_dec {h : Int} (hh : 0 ≤ h ∧ h ≤ 1000000000000000000) : m_P_hour_in (decS h) = h := by
  have hl := dec_len19 hh
  have e := dec_tl hh.1
  have hd : digV (decS h) = h := by
    unfold digV
    rw [dec_nat hh.1, TL.int_num (by rw [← e, ← TL.len_tl]; omega)]
    exact Int.toNat_of_nonneg hh.1
  unfold m_P_hour_in
  rw [if_neg, pass_loop (p := hasSign K_FIGURES)]
  · show (if decide (1000000000000000000 < digV (decS h)) = true then (-(1 : Int)) else digV (decS h)) = h
    rw [hd, decide_eq_false (by omega)]
    rfl
  · intro x hx
    obtain ⟨c, hc, rfl⟩ := List.mem_map.mp hx
    exact fig_iff.mpr (TL.numL_digits h.toNat c (by rw [← e]; exact hc))
  · rw [decide_eq_true (show (1 : Int) ≤ ((decS h).length : Int) by omega), decide_eq_true (show ((decS h).length : Int) ≤ 19 by omega)]
    simp only [Bool.and_self, Bool.not_true, Bool.false_or, Bool.and_eq_true, decide_eq_true_eq, not_and]
    intro h0 h1
    have hp : 10 ≤ h.toNat := by
      have : ¬ h.toNat < 10 := fun z => by
        have := TL.numL_lt z
        rw [← e] at this
        have := congrArg List.length this
        rw [← TL.len_tl] at this
        simp only [List.length_cons, List.length_nil] at this
        omega
      omega
    obtain ⟨c, r, e2, hc⟩ := num_head h.toNat (by omega)
    have e3 : (decS h).cps.toList = c :: r := e.trans e2
    have e4 : signAt (decS h) 0 = ⟨#[c]⟩ := by
      have : (signAt (decS h) 0).cps.toList = [c] := by
        rw [tl_sign, e3]
        have h9 := atI_nth (xs := c :: r) (i := 0) (by unfold inR; simp only [List.length_cons]; omega)
        have h8 : L2.atI (c :: r) 0 = some c := by
          unfold L2.atI L2.ixN
          simp
        rw [h8] at h9
        rw [← Option.some.inj h9]
      exact TL.ext_tl this
    rw [e4] at h0
    have := congrArg (fun z : Str => z.cps.toList) h0
    have e5 : ("0" : Str).cps.toList = [48] := by decide +kernel
    rw [e5] at this
    have : [c] = [48] := this
    injection this with this
    exact hc this
def Wd (w : Str) : Prop := 32 ∉ TL.tl w ∧ 10 ∉ TL.tl w
theorem wd_dec {h : Int} (h0 : 0 ≤ h) : Wd (decS h) := by
  unfold Wd
  rw [dec_tl h0]
  exact ⟨TL.numL_free (by omega), TL.numL_free (by omega)⟩
theorem let_no : ∀ c ∈ K_LETTERS.cps.toList, c ≠ 32 ∧ c ≠ 10 := by decide +kernel
theorem name_wd {w : Str} (h : m_P_is_name (Va.str w) = true) : Wd w := by
  unfold m_P_is_name at h
  split at h
  · cases h
  · have e : (Va.str w).asS = w := rfl
    rw [e] at h
    have hs : ∀ x ∈ signs w, hasSign K_LETTERS x = true := by
      cases q : loopL (R := Bool) (fun (_ : Unit) (x : Str) => if (!hasSign K_LETTERS x) = true then Ret.rt false else Ret.nx ()) (signs w) () with
      | nx u => exact loop_pass q
      | rt b =>
        have hb : b = true := by
          have h2 : lp (loopL (R := Bool) (fun (_ : Unit) (x : Str) => if (!hasSign K_LETTERS x) = true then Ret.rt false else Ret.nx ()) (signs w) ()) (fun _ => true) = true := h
          rw [q] at h2
          exact h2
        have : ∀ {xs : List Str}, loopL (R := Bool) (fun (_ : Unit) (x : Str) => if (!hasSign K_LETTERS x) = true then Ret.rt false else Ret.nx ()) xs () = .rt b → b = false := by
          intro xs
          induction xs with
          | nil => intro z; cases z
          | cons y xs ih =>
            intro z
            rw [loopL] at z
            cases hp : hasSign K_LETTERS y with
            | true => rw [hp] at z; exact ih z
            | false => rw [hp] at z; cases z; rfl
        rw [this q] at hb
        cases hb
    have hc : ∀ c ∈ w.cps.toList, c ≠ 32 ∧ c ≠ 10 := fun c hc => by
      have := hs ⟨#[c]⟩ (List.mem_map.mpr ⟨c, hc, rfl⟩)
      unfold hasSign at this
      rw [decide_eq_true_eq] at this
      unfold signs at this
      obtain ⟨d, hd, e2⟩ := List.mem_map.mp this
      have e3 : d = c := by
        have := congrArg (fun z : Str => z.cps.toList) e2
        simpa using this
      exact let_no c (e3 ▸ hd)
    exact ⟨fun z => (hc _ z).1 rfl, fun z => (hc _ z).2 rfl⟩
theorem name_kind {w : Str} (h : m_P_is_name (Va.str w) = true) : w ∉ K_KINDS := by
  have hk : ∀ x ∈ K_KINDS, m_P_is_name (Va.str x) = false := by decide +kernel
  intro z
  rw [hk w z] at h
  cases h
theorem bl_tl : TL.tl (" " : Str) = 32 :: [] := by decide +kernel
theorem nl_tl : TL.tl ("\n" : Str) = 10 :: [] := by decide +kernel
theorem split_words {ws : List Str} (h : ws ≠ []) (hw : ∀ w ∈ ws, Wd w) : Txt.split (Str.join (" " : Str) ws) (" " : Str) = ws := by
  rw [← TL.join_eq]
  exact TL.split_join bl_tl (by decide +kernel) h fun p hp => (hw p hp).1
theorem joinL_mem {S : List Nat} {c : Nat} : ∀ {l : List (List Nat)}, c ∈ TL.joinL S l → c ∈ S ∨ ∃ p ∈ l, c ∈ p
  | [], h => nomatch h
  | [p], h => .inr ⟨p, List.mem_cons_self, h⟩
  | p :: q :: r, h => by
    have h : c ∈ p ++ (S ++ TL.joinL S (q :: r)) := h
    rcases List.mem_append.mp h with h | h
    · exact .inr ⟨p, List.mem_cons_self, h⟩
    · rcases List.mem_append.mp h with h | h
      · exact .inl h
      · rcases joinL_mem h with h | ⟨z, hz, h⟩
        · exact .inl h
        · exact .inr ⟨z, List.mem_cons_of_mem _ hz, h⟩
theorem row_nl {ws : List Str} (hw : ∀ w ∈ ws, Wd w) : 10 ∉ TL.tl (Str.join (" " : Str) ws) := fun h => by
  rw [TL.tl_join, bl_tl] at h
  rcases joinL_mem h with h | ⟨p, hp, h⟩
  · simp at h
  · obtain ⟨w, hw2, rfl⟩ := List.mem_map.mp hp
    exact (hw w hw2).2 h
theorem split_rows {rs : List Str} (h : rs ≠ []) (hr : ∀ r ∈ rs, 10 ∉ TL.tl r) : Txt.split (Str.join ("\n" : Str) rs) ("\n" : Str) = rs := by
  rw [← TL.join_eq]
  exact TL.split_join nl_tl (by decide +kernel) h hr
theorem nthN {α : Type} [Inhabited α] {xs : List α} {i : Nat} {a : α} (h : xs[i]? = some a) : nth xs (i : Int) = a := by
  have hl : i < xs.length := (List.getElem?_eq_some_iff.mp h).1
  have h9 := atI_nth (xs := xs) (i := (i : Int)) (by unfold inR; omega)
  unfold L2.atI L2.ixN at h9
  rw [if_pos (show (0 : Int) ≤ (i : Int) by omega), if_pos (show (i : Int) < (xs.length : Int) by omega)] at h9
  have h8 : xs[((i : Int)).toNat]? = some (nth xs (i : Int)) := h9
  rw [Int.toNat_natCast, h] at h8
  exact (Option.some.inj h8).symm
theorem cut3 {α : Type} {a b c : α} {l : List α} : cut (a :: b :: c :: l) (some 3) none = l := by
  have e1 : HT.sIx (l.length + 3) 0 (some 3) = 3 := by
    unfold HT.sIx
    simp only []
    split <;> omega
  have e2 : HT.sIx (l.length + 3) (l.length + 3) none = l.length + 3 := rfl
  have e : cut (a :: b :: c :: l) (some 3) none = ((a :: b :: c :: l).drop (HT.sIx (l.length + 3) 0 (some 3))).take (HT.sIx (l.length + 3) (l.length + 3) none - HT.sIx (l.length + 3) 0 (some 3)) := rfl
  rw [e, e1, e2]
  show l.take (l.length + 3 - 3) = l
  rw [Nat.add_sub_cancel, List.take_length]
def It.ws : It → List Str
  | .per p => [("person" : Str), p]
  | .saw x => ("saw" : Str) :: x.1 :: decS x.2.1 :: x.2.2
  | .tk t => if t.2.2.2 = ("one" : Str) then [("talk" : Str), decS t.1, t.2.1, ("to" : Str), t.2.2.1] else [("talk" : Str), decS t.1, t.2.1, t.2.2.1]
  | .sy (.knew a h) => [a, ("knew" : Str), ("by" : Str), decS h]
  | .sy (.unheard a none) => [a, ("heard" : Str), ("nobody" : Str), ("never" : Str)]
  | .sy (.unheard a (some h)) => [a, ("heard" : Str), ("nobody" : Str), ("by" : Str), decS h]
  | .sy (.silent a h k) => [a, ("told" : Str), ("nobody" : Str), ("from" : Str), decS h, ("to" : Str), decS k]
  | .sy (.barred a b) => [a, ("heard" : Str), ("not" : Str), ("from" : Str), b]
def It.row (i : It) : Str := Str.join (" " : Str) i.ws
def ItOk (p : List Str) : It → Prop
  | .per n => m_P_is_name (Va.str n) = true
  | .saw x => m_P_is_sight x p = true
  | .tk t => m_P_is_talk t p = true
  | .sy s => m_P_is_saying s p = true
theorem told0 {n : Str} {ps : List Str} {k : Int} (hn : m_P_is_name (Va.str n) = true) (hp : n ∉ ps) : m_P_told_by_at_0 [("person" : Str), n] k ps = some n := by
  have e : nth [("person" : Str), n] (1 : Int) = n := rfl
  unfold m_P_told_by_at_0
  rw [e, hn, decide_eq_false hp]
  rfl
theorem sight_tale {x : Sight} {p : List Str} (h : m_P_is_sight x p = true) : 1 ≤ x.2.2.length ∧ ∀ w ∈ x.2.2, m_P_is_name (Va.str w) = true := by
  unfold m_P_is_sight at h
  rw [tup_of3] at h
  simp only [Bool.not_true, Bool.false_eq_true, if_false, Bool.and_eq_true, decide_eq_true_eq] at h
  obtain ⟨q1, q2, q3⟩ := h
  unfold m_P_is_tale at q3
  rw [loop_all (fun x => m_P_is_name (Va.str x))] at q3
  obtain ⟨r1, r2, _⟩ := lp_all q3
  simp only [Bool.not_true, Bool.false_or, Bool.not_eq_false', Bool.and_eq_true, decide_eq_true_eq] at r1
  exact ⟨by omega, r2⟩
theorem told1 {x : Sight} {p : List Str} {k : Int} (h : m_P_is_sight x p = true) (hh : 0 ≤ x.2.1 ∧ x.2.1 ≤ 1000000000000000000) : m_P_told_by_at_1 (("saw" : Str) :: x.1 :: decS x.2.1 :: x.2.2) k p = some x := by
  have h1 := (sight_tale h).1
  have e1 : nth (("saw" : Str) :: x.1 :: decS x.2.1 :: x.2.2) (1 : Int) = x.1 := nthN (i := 1) rfl
  have e2 : nth (("saw" : Str) :: x.1 :: decS x.2.1 :: x.2.2) (2 : Int) = decS x.2.1 := nthN (i := 2) rfl
  unfold m_P_told_by_at_1
  rw [if_neg (by rw [decide_eq_true_eq]; simp only [List.length_cons]; omega), e1, e2, cut3, hour_dec hh]
  show (if m_P_is_sight (x.1, x.2.1, x.2.2) p = true then some (x.1, x.2.1, x.2.2) else none) = some x
  rw [if_pos h]
theorem talk_way2 {x : Talk} {p : List Str} (h : m_P_is_talk x p = true) : x.2.2.2 = ("both" : Str) ∨ x.2.2.2 = ("one" : Str) := by
  unfold m_P_is_talk at h
  rw [tup_of4] at h
  simp only [Bool.not_true, Bool.false_eq_true, if_false, Bool.and_eq_true, decide_eq_true_eq] at h
  obtain ⟨_, _, h6⟩ := h
  simpa using h6
theorem talk_in_ws {t : Talk} {p : List Str} (h : m_P_is_talk t p = true) (hh : 0 ≤ t.1 ∧ t.1 ≤ 1000000000000000000) : m_P_talk_in (It.tk t).ws = some t := by
  obtain ⟨h0, a, b, w⟩ := t
  have hn : ¬ ("both" : Str) = ("one" : Str) := by decide +kernel
  rcases talk_way2 h with hw | hw
  · have hw : w = ("both" : Str) := hw
    subst hw
    have e : (It.tk (h0, a, b, ("both" : Str))).ws = [("talk" : Str), decS h0, a, b] := by
      show (if ("both" : Str) = ("one" : Str) then [("talk" : Str), decS h0, a, ("to" : Str), b] else [("talk" : Str), decS h0, a, b]) = _
      rw [if_neg hn]
    rw [e]
    show (some (m_P_hour_in (decS h0), a, b, ("both" : Str))) = _
    rw [hour_dec hh]
  · have hw : w = ("one" : Str) := hw
    subst hw
    have e : (It.tk (h0, a, b, ("one" : Str))).ws = [("talk" : Str), decS h0, a, ("to" : Str), b] := by
      show (if ("one" : Str) = ("one" : Str) then [("talk" : Str), decS h0, a, ("to" : Str), b] else [("talk" : Str), decS h0, a, b]) = _
      rw [if_pos rfl]
    rw [e]
    unfold m_P_talk_in
    have e1 : nth [("talk" : Str), decS h0, a, ("to" : Str), b] (3 : Int) = ("to" : Str) := rfl
    have e2 : nth [("talk" : Str), decS h0, a, ("to" : Str), b] (1 : Int) = decS h0 := rfl
    rw [e1, e2, decide_eq_true (rfl : ("to" : Str) = ("to" : Str)), hour_dec hh]
    rfl
theorem nk1 : decide ([("heard" : Str), ("nobody" : Str)] = [("knew" : Str), ("by" : Str)]) = false := by decide +kernel
theorem saying_in_ws {s : Sy} (h : SyOk s) : m_P_saying_in (It.sy s).ws = some s := by
  cases s with
  | knew a z =>
    have hz : 0 ≤ z ∧ z ≤ 1000000000000000000 := h.h1
    have e1 : cut [a, ("knew" : Str), ("by" : Str), decS z] (some 1) (some 3) = [("knew" : Str), ("by" : Str)] := rfl
    have e2 : nth [a, ("knew" : Str), ("by" : Str), decS z] (3 : Int) = decS z := rfl
    have e3 : nth [a, ("knew" : Str), ("by" : Str), decS z] (0 : Int) = a := rfl
    show m_P_saying_in [a, ("knew" : Str), ("by" : Str), decS z] = _
    unfold m_P_saying_in
    rw [e1, e2, e3, hour_dec hz, decide_eq_true (rfl : [("knew" : Str), ("by" : Str)] = [("knew" : Str), ("by" : Str)])]
    rfl
  | unheard a z =>
    cases z with
    | none =>
      have e1 : cut [a, ("heard" : Str), ("nobody" : Str), ("never" : Str)] (some 1) (some 3) = [("heard" : Str), ("nobody" : Str)] := rfl
      have e2 : cut [a, ("heard" : Str), ("nobody" : Str), ("never" : Str)] (some 1) none = [("heard" : Str), ("nobody" : Str), ("never" : Str)] := rfl
      show m_P_saying_in [a, ("heard" : Str), ("nobody" : Str), ("never" : Str)] = _
      unfold m_P_saying_in
      rw [e1, e2, nk1, decide_eq_true (rfl : [("heard" : Str), ("nobody" : Str), ("never" : Str)] = [("heard" : Str), ("nobody" : Str), ("never" : Str)])]
      rfl
    | some z =>
      have hz : 0 ≤ z ∧ z ≤ 1000000000000000000 := h.ho z rfl
      have e2 : cut [a, ("heard" : Str), ("nobody" : Str), ("by" : Str), decS z] (some 1) none = [("heard" : Str), ("nobody" : Str), ("by" : Str), decS z] := rfl
      have e3 : cut [a, ("heard" : Str), ("nobody" : Str), ("by" : Str), decS z] (some 1) (some 4) = [("heard" : Str), ("nobody" : Str), ("by" : Str)] := rfl
      have e4 : nth [a, ("heard" : Str), ("nobody" : Str), ("by" : Str), decS z] (4 : Int) = decS z := rfl
      have e5 : decide ([("heard" : Str), ("nobody" : Str), ("by" : Str), decS z] = [("heard" : Str), ("nobody" : Str), ("never" : Str)]) = false := decide_eq_false fun q => by
        have : (4 : Nat) = 3 := congrArg List.length q
        omega
      show m_P_saying_in [a, ("heard" : Str), ("nobody" : Str), ("by" : Str), decS z] = _
      unfold m_P_saying_in
      rw [e2, e3, e4, e5, hour_dec hz, decide_eq_true (rfl : [("heard" : Str), ("nobody" : Str), ("by" : Str)] = [("heard" : Str), ("nobody" : Str), ("by" : Str)])]
      rfl
  | silent a y z =>
    have hy : 0 ≤ y ∧ y ≤ 1000000000000000000 := h.h1
    have hz : 0 ≤ z ∧ z ≤ 1000000000000000000 := h.h2
    have e2 : cut [a, ("told" : Str), ("nobody" : Str), ("from" : Str), decS y, ("to" : Str), decS z] (some 1) none = [("told" : Str), ("nobody" : Str), ("from" : Str), decS y, ("to" : Str), decS z] := rfl
    have e3 : cut [a, ("told" : Str), ("nobody" : Str), ("from" : Str), decS y, ("to" : Str), decS z] (some 1) (some 4) = [("told" : Str), ("nobody" : Str), ("from" : Str)] := rfl
    have e4 : nth [a, ("told" : Str), ("nobody" : Str), ("from" : Str), decS y, ("to" : Str), decS z] (4 : Int) = decS y := rfl
    have e6 : nth [a, ("told" : Str), ("nobody" : Str), ("from" : Str), decS y, ("to" : Str), decS z] (6 : Int) = decS z := rfl
    have e7 : nth [a, ("told" : Str), ("nobody" : Str), ("from" : Str), decS y, ("to" : Str), decS z] (5 : Int) = ("to" : Str) := rfl
    have e5 : decide ([("told" : Str), ("nobody" : Str), ("from" : Str), decS y, ("to" : Str), decS z] = [("heard" : Str), ("nobody" : Str), ("never" : Str)]) = false := decide_eq_false fun q => by
      have : (6 : Nat) = 3 := congrArg List.length q
      omega
    show m_P_saying_in [a, ("told" : Str), ("nobody" : Str), ("from" : Str), decS y, ("to" : Str), decS z] = _
    unfold m_P_saying_in
    rw [e2, e3, e4, e5, e6, e7, hour_dec hy, hour_dec hz, decide_eq_true (rfl : [("told" : Str), ("nobody" : Str), ("from" : Str)] = [("told" : Str), ("nobody" : Str), ("from" : Str)]), decide_eq_true (rfl : ("to" : Str) = ("to" : Str))]
    rfl
  | barred a b =>
    have e2 : cut [a, ("heard" : Str), ("not" : Str), ("from" : Str), b] (some 1) none = [("heard" : Str), ("not" : Str), ("from" : Str), b] := rfl
    have e3 : cut [a, ("heard" : Str), ("not" : Str), ("from" : Str), b] (some 1) (some 4) = [("heard" : Str), ("not" : Str), ("from" : Str)] := rfl
    have e5 : decide ([("heard" : Str), ("not" : Str), ("from" : Str), b] = [("heard" : Str), ("nobody" : Str), ("never" : Str)]) = false := decide_eq_false fun q => by
      have : (4 : Nat) = 3 := congrArg List.length q
      omega
    have e6 : decide ([("heard" : Str), ("not" : Str), ("from" : Str)] = [("heard" : Str), ("nobody" : Str), ("by" : Str)]) = false := by decide +kernel
    show m_P_saying_in [a, ("heard" : Str), ("not" : Str), ("from" : Str), b] = _
    unfold m_P_saying_in
    rw [e2, e3, e5, e6, decide_eq_true (rfl : [("heard" : Str), ("not" : Str), ("from" : Str)] = [("heard" : Str), ("not" : Str), ("from" : Str)])]
    rfl
def It.hr : It → Prop
  | .per _ => True
  | .saw x => SgOk x
  | .tk t => TalkOk t
  | .sy s => SyOk s
theorem wd_c : ∀ w ∈ [("person" : Str), ("saw" : Str), ("talk" : Str), ("to" : Str), ("knew" : Str), ("by" : Str), ("heard" : Str), ("nobody" : Str), ("never" : Str), ("told" : Str), ("from" : Str), ("not" : Str)], Wd w := by
  unfold Wd
  decide +kernel
theorem say_bar {a b : Str} {p : List Str} (h : m_P_is_saying (.barred a b) p = true) : b ∈ p := by
  unfold m_P_is_saying at h
  split at h
  · cases h
  · have e1 : decide ((Sy.barred a b).kd = ("silent" : Str)) = false := by show decide (("barred" : Str) = ("silent" : Str)) = false; decide +kernel
    have e2 : decide ((Sy.barred a b).kd = ("knew" : Str)) = false := by show decide (("barred" : Str) = ("knew" : Str)) = false; decide +kernel
    have e3 : decide ((Sy.barred a b).kd = ("unheard" : Str)) = false := by show decide (("barred" : Str) = ("unheard" : Str)) = false; decide +kernel
    rw [e1, e2, e3] at h
    have h' : (decide ((Sy.barred a b).kd = ("barred" : Str)) && m_P_are_two a b p) = true := h
    rw [Bool.and_eq_true] at h'
    have h2 := h'.2
    unfold m_P_are_two at h2
    simp only [Bool.and_eq_true, decide_eq_true_eq] at h2
    exact h2.2.1
theorem all_cons {P : Str → Prop} {a : Str} {l : List Str} (h : P a) (hl : ∀ w ∈ l, P w) : ∀ w ∈ a :: l, P w := fun w hw => by
  rcases List.mem_cons.mp hw with rfl | hw
  · exact h
  · exact hl w hw
theorem all_nil {P : Str → Prop} : ∀ w ∈ ([] : List Str), P w := fun _ h => nomatch h
theorem item_wd {p : List Str} (hp : ∀ n ∈ p, m_P_is_name (Va.str n) = true) {i : It} (h : ItOk p i) (ho : i.hr) : ∀ w ∈ i.ws, Wd w := by
  have c : ∀ w, w ∈ [("person" : Str), ("saw" : Str), ("talk" : Str), ("to" : Str), ("knew" : Str), ("by" : Str), ("heard" : Str), ("nobody" : Str), ("never" : Str), ("told" : Str), ("from" : Str), ("not" : Str)] → Wd w := wd_c
  have nm : ∀ w, w ∈ p → Wd w := fun w hw => name_wd (hp w hw)
  cases i with
  | per n => exact all_cons (c _ (by simp)) (all_cons (name_wd h) all_nil)
  | saw x => exact all_cons (c _ (by simp)) (all_cons (nm _ (sight_who h)) (all_cons (wd_dec (SgOk.h ho).1) fun w hw => name_wd ((sight_tale h).2 w hw)))
  | tk t =>
    have ht := talk_two h
    show ∀ w ∈ (if t.2.2.2 = ("one" : Str) then [("talk" : Str), decS t.1, t.2.1, ("to" : Str), t.2.2.1] else [("talk" : Str), decS t.1, t.2.1, t.2.2.1]), Wd w
    split
    · exact all_cons (c _ (by simp)) (all_cons (wd_dec (TalkOk.h ho).1) (all_cons (nm _ ht.1) (all_cons (c _ (by simp)) (all_cons (nm _ ht.2) all_nil))))
    · exact all_cons (c _ (by simp)) (all_cons (wd_dec (TalkOk.h ho).1) (all_cons (nm _ ht.1) (all_cons (nm _ ht.2) all_nil)))
  | sy s =>
    have hw := nm _ (say_who h)
    cases s with
    | knew a z => exact all_cons hw (all_cons (c _ (by simp)) (all_cons (c _ (by simp)) (all_cons (wd_dec (SyOk.h1 ho).1) all_nil)))
    | unheard a z =>
      cases z with
      | none => exact all_cons hw (all_cons (c _ (by simp)) (all_cons (c _ (by simp)) (all_cons (c _ (by simp)) all_nil)))
      | some z => exact all_cons hw (all_cons (c _ (by simp)) (all_cons (c _ (by simp)) (all_cons (c _ (by simp)) (all_cons (wd_dec (SyOk.ho ho z rfl).1) all_nil))))
    | silent a y z => exact all_cons hw (all_cons (c _ (by simp)) (all_cons (c _ (by simp)) (all_cons (c _ (by simp)) (all_cons (wd_dec (SyOk.h1 ho).1) (all_cons (c _ (by simp)) (all_cons (wd_dec (SyOk.h2 ho).1) all_nil))))))
    | barred a b => exact all_cons hw (all_cons (c _ (by simp)) (all_cons (c _ (by simp)) (all_cons (c _ (by simp)) (all_cons (nm _ (say_bar h)) all_nil))))
theorem ws_len (i : It) : 1 ≤ i.ws.length := by
  cases i with
  | per n => exact Nat.le_add_left _ _
  | saw x => exact Nat.le_add_left _ _
  | tk t =>
    show 1 ≤ (if t.2.2.2 = ("one" : Str) then [("talk" : Str), decS t.1, t.2.1, ("to" : Str), t.2.2.1] else [("talk" : Str), decS t.1, t.2.1, t.2.2.1]).length
    split <;> exact Nat.le_add_left _ _
  | sy s =>
    cases s with
    | knew a z => exact Nat.le_add_left _ _
    | unheard a z => cases z <;> exact Nat.le_add_left _ _
    | silent a y z => exact Nat.le_add_left _ _
    | barred a b => exact Nat.le_add_left _ _
theorem ws_hd (i : It) : nth i.ws 0 = match i with | .per _ => ("person" : Str) | .saw _ => ("saw" : Str) | .tk _ => ("talk" : Str) | .sy s => s.who := by
  cases i with
  | per n => exact nthN (i := 0) rfl
  | saw x => exact nthN (i := 0) rfl
  | tk t =>
    show nth (if t.2.2.2 = ("one" : Str) then [("talk" : Str), decS t.1, t.2.1, ("to" : Str), t.2.2.1] else [("talk" : Str), decS t.1, t.2.1, t.2.2.1]) 0 = _
    split <;> exact nthN (i := 0) rfl
  | sy s =>
    cases s with
    | knew a z => exact nthN (i := 0) rfl
    | unheard a z => cases z <;> exact nthN (i := 0) rfl
    | silent a y z => exact nthN (i := 0) rfl
    | barred a b => exact nthN (i := 0) rfl
theorem item_kind {p : List Str} (hp : ∀ n ∈ p, m_P_is_name (Va.str n) = true) {i : It} (h : ItOk p i) : (if decide (nth i.ws 0 ∈ K_KINDS) = true then idxS K_KINDS (nth i.ws 0) else (3 : Int)) = i.kd := by
  rw [ws_hd]
  cases i with
  | per n => show (if decide (("person" : Str) ∈ K_KINDS) = true then idxS K_KINDS ("person" : Str) else (3 : Int)) = 0; decide +kernel
  | saw x => show (if decide (("saw" : Str) ∈ K_KINDS) = true then idxS K_KINDS ("saw" : Str) else (3 : Int)) = 1; decide +kernel
  | tk t => show (if decide (("talk" : Str) ∈ K_KINDS) = true then idxS K_KINDS ("talk" : Str) else (3 : Int)) = 2; decide +kernel
  | sy s =>
    show (if decide (s.who ∈ K_KINDS) = true then idxS K_KINDS s.who else (3 : Int)) = 3
    rw [decide_eq_false (name_kind (hp _ (say_who h)))]
    rfl
def stOf (l : List It) : RdS := l.foldl It.add (0, [], [], [], [])
theorem rd_lt {α β : Type} {a : α} {f : α → β} {c : β} (h : ∀ x, x = a → f x = c) : lt a f = c := h a rfl
structure RdOk (p : List Str) (s : RdS) (i : It) : Prop where
  ok : ItOk p i
  hr : i.hr
  fresh : ∀ n, i = .per n → n ∉ s.2.1
  all : i.kd ≠ 0 → s.2.1 = p
  lst : s.1 ≤ i.kd
  c0 : i.kd = 0 → s.2.1.length < 24
  c1 : i.kd = 1 → s.2.2.1.length < 24
  c2 : i.kd = 2 → s.2.2.2.1.length < 120
  c3 : i.kd = 3 → s.2.2.2.2.length < 60
abbrev V4 := List Str × List Sight × List Talk × List Sy
def itemsOf (v : V4) : List It := v.1.map .per ++ (v.2.1.map .saw ++ (v.2.2.1.map .tk ++ v.2.2.2.map .sy))
abbrev bkV (v : V4) : BookV := m_P_Book v.1 v.2.1 v.2.2.1 v.2.2.2
abbrev GoodV (v : V4) : Prop := goodBook v.1 v.2.1 v.2.2.1 v.2.2.2
def It.per? : It → Option Str | .per n => some n | _ => none
def It.saw? : It → Option Sight | .saw n => some n | _ => none
def It.tk? : It → Option Talk | .tk n => some n | _ => none
def It.sy? : It → Option Sy | .sy n => some n | _ => none
theorem fm_id {α : Type} {g : α → It} {f : It → Option α} (h : ∀ a, f (g a) = some a) : ∀ l : List α, (l.map g).filterMap f = l
  | [] => rfl
  | a :: l => by rw [List.map_cons, List.filterMap_cons, h, fm_id h l]
theorem fm_no {α β : Type} {g : α → It} {f : It → Option β} (h : ∀ a, f (g a) = none) : ∀ l : List α, (l.map g).filterMap f = []
  | [] => rfl
  | a :: l => by rw [List.map_cons, List.filterMap_cons, h, fm_no h l]
theorem items_per (v : V4) : (itemsOf v).filterMap It.per? = v.1 := by
  unfold itemsOf
  rw [List.filterMap_append, List.filterMap_append, List.filterMap_append, fm_id (g := It.per) (f := It.per?) (fun _ => rfl), fm_no (g := It.saw) (f := It.per?) (fun _ => rfl), fm_no (g := It.tk) (f := It.per?) (fun _ => rfl), fm_no (g := It.sy) (f := It.per?) (fun _ => rfl)]
  simp
theorem items_saw (v : V4) : (itemsOf v).filterMap It.saw? = v.2.1 := by
  unfold itemsOf
  rw [List.filterMap_append, List.filterMap_append, List.filterMap_append, fm_no (g := It.per) (f := It.saw?) (fun _ => rfl), fm_id (g := It.saw) (f := It.saw?) (fun _ => rfl), fm_no (g := It.tk) (f := It.saw?) (fun _ => rfl), fm_no (g := It.sy) (f := It.saw?) (fun _ => rfl)]
  simp
theorem items_tk (v : V4) : (itemsOf v).filterMap It.tk? = v.2.2.1 := by
  unfold itemsOf
  rw [List.filterMap_append, List.filterMap_append, List.filterMap_append, fm_no (g := It.per) (f := It.tk?) (fun _ => rfl), fm_no (g := It.saw) (f := It.tk?) (fun _ => rfl), fm_id (g := It.tk) (f := It.tk?) (fun _ => rfl), fm_no (g := It.sy) (f := It.tk?) (fun _ => rfl)]
  simp
theorem items_sy (v : V4) : (itemsOf v).filterMap It.sy? = v.2.2.2 := by
  unfold itemsOf
  rw [List.filterMap_append, List.filterMap_append, List.filterMap_append, fm_no (g := It.per) (f := It.sy?) (fun _ => rfl), fm_no (g := It.saw) (f := It.sy?) (fun _ => rfl), fm_no (g := It.tk) (f := It.sy?) (fun _ => rfl), fm_id (g := It.sy) (f := It.sy?) (fun _ => rfl)]
  simp
theorem st_parts : ∀ (q : List It) (s : RdS), (q.foldl It.add s).2.1 = s.2.1 ++ q.filterMap It.per? ∧ (q.foldl It.add s).2.2.1 = s.2.2.1 ++ q.filterMap It.saw? ∧ (q.foldl It.add s).2.2.2.1 = s.2.2.2.1 ++ q.filterMap It.tk? ∧ (q.foldl It.add s).2.2.2.2 = s.2.2.2.2 ++ q.filterMap It.sy?
  | [], s => by simp
  | i :: q, s => by
    obtain ⟨h1, h2, h3, h4⟩ := st_parts q (i.add s)
    rw [List.foldl_cons, h1, h2, h3, h4]
    cases i <;> simp [It.add, List.filterMap_cons, It.per?, It.saw?, It.tk?, It.sy?]
theorem st_last : ∀ (q : List It) (s : RdS), (q.foldl It.add s).1 = s.1 ∨ ∃ j ∈ q, (q.foldl It.add s).1 = j.kd
  | [], s => .inl rfl
  | i :: q, s => by
    rw [List.foldl_cons]
    rcases st_last q (i.add s) with h | ⟨j, hj, h⟩
    · exact .inr ⟨i, List.mem_cons_self, by rw [h]; cases i <;> rfl⟩
    · exact .inr ⟨j, List.mem_cons_of_mem _ hj, h⟩
theorem items_sorted (v : V4) : (itemsOf v).Pairwise fun a b => a.kd ≤ b.kd := by
  have seg : ∀ {α : Type} {g : α → It} {k : Int}, (∀ a, (g a).kd = k) → ∀ l : List α, (l.map g).Pairwise fun a b => a.kd ≤ b.kd := by
    intro α g k hk l
    rw [List.pairwise_map]
    exact List.pairwise_of_forall fun a b => by rw [hk, hk]; exact Int.le_refl _
  have lo : ∀ {α : Type} {g : α → It} {l : List α} {x : It}, x ∈ l.map g → ∃ a, x = g a := fun h => by
    obtain ⟨a, _, rfl⟩ := List.mem_map.mp h
    exact ⟨a, rfl⟩
  unfold itemsOf
  refine List.pairwise_append.mpr ⟨seg (k := 0) (fun _ => rfl) _, List.pairwise_append.mpr ⟨seg (k := 1) (fun _ => rfl) _, List.pairwise_append.mpr ⟨seg (k := 2) (fun _ => rfl) _, seg (k := 3) (fun _ => rfl) _, ?_⟩, ?_⟩, ?_⟩
  · intro a ha b hb
    obtain ⟨a, rfl⟩ := lo ha
    obtain ⟨b, rfl⟩ := lo hb
    show (2 : Int) ≤ 3
    decide
  · intro a ha b hb
    obtain ⟨a, rfl⟩ := lo ha
    rcases List.mem_append.mp hb with hb | hb
    · obtain ⟨b, rfl⟩ := lo hb
      show (1 : Int) ≤ 2
      decide
    · obtain ⟨b, rfl⟩ := lo hb
      show (1 : Int) ≤ 3
      decide
  · intro a ha b hb
    obtain ⟨a, rfl⟩ := lo ha
    show (0 : Int) ≤ b.kd
    cases b <;> simp [It.kd]
theorem good_names {v : V4} (h : GoodV v) : (∀ n ∈ v.1, m_P_is_name (Va.str n) = true) ∧ v.1.Nodup ∧ 1 ≤ v.1.length ∧ v.1.length ≤ 24 := by
  obtain ⟨h1, _⟩ := h
  unfold m_P_are_persons at h1
  rw [loop_all (fun x => m_P_is_name (Va.str x))] at h1
  obtain ⟨a1, a2, a3⟩ := lp_all h1
  simp only [Bool.not_true, Bool.false_or, Bool.not_eq_false', Bool.and_eq_true, decide_eq_true_eq] at a1 a3
  exact ⟨a2, nodup_of_nub (by omega), by omega, by omega⟩
theorem good_item {v : V4} (h : GoodV v) {i : It} (hi : i ∈ itemsOf v) : ItOk v.1 i ∧ i.hr := by
  have tx := tx_of h
  have nm := good_names h
  obtain ⟨_, h2, h3, h4⟩ := h
  unfold m_P_are_all_at_is_sight at h2
  rw [loop_all (fun x => m_P_is_sight x v.1)] at h2
  obtain ⟨_, b2, _⟩ := lp_all h2
  unfold m_P_are_all_at_is_talk at h3
  rw [loop_all (fun x => m_P_is_talk x v.1)] at h3
  obtain ⟨_, c2, _⟩ := lp_all h3
  unfold m_P_are_all_at_is_saying at h4
  rw [loop_all (fun x => m_P_is_saying x v.1)] at h4
  obtain ⟨_, d2, _⟩ := lp_all h4
  unfold itemsOf at hi
  rcases List.mem_append.mp hi with hi | hi
  · obtain ⟨n, hn, rfl⟩ := List.mem_map.mp hi
    exact ⟨nm.1 n hn, trivial⟩
  · rcases List.mem_append.mp hi with hi | hi
    · obtain ⟨x, hx, rfl⟩ := List.mem_map.mp hi
      exact ⟨b2 x hx, tx.s x hx⟩
    · rcases List.mem_append.mp hi with hi | hi
      · obtain ⟨x, hx, rfl⟩ := List.mem_map.mp hi
        exact ⟨c2 x hx, tx.t x hx⟩
      · obtain ⟨x, hx, rfl⟩ := List.mem_map.mp hi
        exact ⟨d2 x hx, tx.y x hx⟩
theorem rd_ok {v : V4} (h : GoodV v) {q r : List It} {i : It} (e : itemsOf v = q ++ i :: r) : RdOk v.1 (stOf q) i := by
  have hi := good_item h (i := i) (by rw [e]; simp)
  have nm := good_names h
  have bk := bk_of h
  have hs := items_sorted v
  rw [e] at hs
  have h0 := List.pairwise_append.mp hs
  have hqi : ∀ j ∈ q, j.kd ≤ i.kd := fun j hj => h0.2.2 j hj i List.mem_cons_self
  have hir : ∀ j ∈ r, i.kd ≤ j.kd := fun j hj => (List.pairwise_cons.mp h0.2.1).1 j hj
  obtain ⟨p1, p2, p3, p4⟩ := st_parts q (0, [], [], [], [])
  have e1 : q.filterMap It.per? ++ (i :: r).filterMap It.per? = v.1 := by rw [← List.filterMap_append, ← e]; exact items_per v
  have e2 : q.filterMap It.saw? ++ (i :: r).filterMap It.saw? = v.2.1 := by rw [← List.filterMap_append, ← e]; exact items_saw v
  have e3 : q.filterMap It.tk? ++ (i :: r).filterMap It.tk? = v.2.2.1 := by rw [← List.filterMap_append, ← e]; exact items_tk v
  have e4 : q.filterMap It.sy? ++ (i :: r).filterMap It.sy? = v.2.2.2 := by rw [← List.filterMap_append, ← e]; exact items_sy v
  have q1 : (stOf q).2.1 = q.filterMap It.per? := p1
  have q2 : (stOf q).2.2.1 = q.filterMap It.saw? := p2
  have q3 : (stOf q).2.2.2.1 = q.filterMap It.tk? := p3
  have q4 : (stOf q).2.2.2.2 = q.filterMap It.sy? := p4
  have l1 : v.1.length ≤ 24 := bk.lc
  have l2 : v.2.1.length ≤ 24 := bk.lv
  have l3 : v.2.2.1.length ≤ 120 := bk.lm
  have l4 : v.2.2.2.length ≤ 60 := bk.ly
  refine ⟨hi.1, hi.2, fun n en => ?_, fun hk => ?_, ?_, fun hk => ?_, fun hk => ?_, fun hk => ?_, fun hk => ?_⟩
  · subst en
    have hn := nm.2.1
    rw [← e1] at hn
    rw [q1]
    intro z
    exact (List.nodup_append.mp hn).2.2 n z n (by rw [List.filterMap_cons]; exact List.mem_cons_self) rfl
  · have : (i :: r).filterMap It.per? = [] := by
      rw [List.filterMap_eq_nil_iff]
      intro j hj
      have hjk : i.kd ≤ j.kd := by
        rcases List.mem_cons.mp hj with rfl | hj
        · exact Int.le_refl _
        · exact hir j hj
      cases j with
      | per n =>
        have h1 : i.kd ≤ 0 := hjk
        cases i <;> first | exact absurd rfl hk | exact absurd h1 (by show ¬ (1 : Int) ≤ 0; decide) | exact absurd h1 (by show ¬ (2 : Int) ≤ 0; decide) | exact absurd h1 (by show ¬ (3 : Int) ≤ 0; decide)
      | _ => rfl
    rw [this, List.append_nil] at e1
    rw [q1, e1]
  · rcases st_last q (0, [], [], [], []) with h1 | ⟨j, hj, h1⟩
    · have h2 : (stOf q).1 = 0 := h1
      rw [h2]
      cases i <;> simp [It.kd]
    · have h2 : (stOf q).1 = j.kd := h1
      rw [h2]
      exact hqi j hj
  · rw [q1]
    have := congrArg List.length e1
    cases i with
    | per n => rw [List.length_append, List.filterMap_cons] at this; simp only [It.per?, List.length_cons] at this; omega
    | _ => exact absurd hk (by simp [It.kd])
  · rw [q2]
    have := congrArg List.length e2
    cases i with
    | saw n => rw [List.length_append, List.filterMap_cons] at this; simp only [It.saw?, List.length_cons] at this; omega
    | _ => exact absurd hk (by simp [It.kd])
  · rw [q3]
    have := congrArg List.length e3
    cases i with
    | tk n => rw [List.length_append, List.filterMap_cons] at this; simp only [It.tk?, List.length_cons] at this; omega
    | _ => exact absurd hk (by simp [It.kd])
  · rw [q4]
    have := congrArg List.length e4
    cases i with
    | sy n => rw [List.length_append, List.filterMap_cons] at this; simp only [It.sy?, List.length_cons] at this; omega
    | _ => exact absurd hk (by simp [It.kd])
theorem st_all {v : V4} : stOf (itemsOf v) = ((stOf (itemsOf v)).1, v.1, v.2.1, v.2.2.1, v.2.2.2) := by
  obtain ⟨p1, p2, p3, p4⟩ := st_parts (itemsOf v) (0, [], [], [], [])
  have q1 : (stOf (itemsOf v)).2.1 = v.1 := p1.trans (items_per v)
  have q2 : (stOf (itemsOf v)).2.2.1 = v.2.1 := p2.trans (items_saw v)
  have q3 : (stOf (itemsOf v)).2.2.2.1 = v.2.2.1 := p3.trans (items_tk v)
  have q4 : (stOf (itemsOf v)).2.2.2.2 = v.2.2.2 := p4.trans (items_sy v)
  rw [← q1, ← q2, ← q3, ← q4]
theorem sg_ext {a b : Str} (h : a.cps.toList = b.cps.toList) : a = b := TL.ext_tl h
theorem cps_app (a b : Str) : (a ++ b).cps.toList = a.cps.toList ++ b.cps.toList := TL.tl_append a b
theorem sapp (a b c : Str) : (a ++ b) ++ c = a ++ (b ++ c) := sg_ext (by simp only [cps_app, List.append_assoc])
theorem rw_per (n : Str) : ("person " : Str) ++ n = (It.per n).row := by
  show ("person " : Str) ++ n = ("person" : Str) ++ (" " : Str) ++ n
  rw [show ("person " : Str) = ("person" : Str) ++ (" " : Str) from by decide +kernel]
theorem told2N {t : Talk} {p : List Str} (h : m_P_is_talk t p = true) (hh : 0 ≤ t.1 ∧ t.1 ≤ 1000000000000000000) : m_P_told_by_at_2 (It.tk t).ws 2 p = some t := by
  unfold m_P_told_by_at_2
  rw [talk_in_ws h hh]
  show (if m_P_is_talk t p = true then some t else none) = some t
  rw [if_pos h]
theorem told3N {s : Sy} {p : List Str} (h : m_P_is_saying s p = true) (hs : SyOk s) : m_P_told_by_at_3 (It.sy s).ws 3 p = some s := by
  unfold m_P_told_by_at_3
  rw [saying_in_ws hs]
  show (if m_P_is_saying s p = true then some s else none) = some s
  rw [if_pos h]
theorem row_split {p : List Str} (hp : ∀ n ∈ p, m_P_is_name (Va.str n) = true) {i : It} (h : ItOk p i) (ho : i.hr) : Txt.split i.row (" " : Str) = i.ws := split_words (fun z => by have := ws_len i; rw [z] at this; exact absurd this (by decide)) (item_wd hp h ho)
theorem row_kind {p : List Str} (hp : ∀ n ∈ p, m_P_is_name (Va.str n) = true) {i : It} (h : ItOk p i) (ho : i.hr) : kindOf (Txt.split i.row (" " : Str)) = i.kd := by
  rw [row_split hp h ho]
  exact item_kind hp h
theorem rd_next {p : List Str} {s : RdS} {i : It} (h : RdOk p s i) (hp : ∀ n ∈ p, m_P_is_name (Va.str n) = true) : rdNext s i.row = some (It.add s i) := by
  have hw := row_split hp h.ok h.hr
  have hk := row_kind hp h.ok h.hr
  have hok := h.ok
  have hhr := h.hr
  have hl := h.lst
  unfold rdNext
  rw [hk, hw]
  cases i with
  | per n =>
    have e : toldI (It.per n).ws (It.per n).kd s.2.1 = some (It.per n) := by
      show (m_P_told_by_at_0 [("person" : Str), n] 0 s.2.1).map It.per = _
      rw [told0 hok (h.fresh n rfl)]; rfl
    have hc := h.c0 rfl
    have hl2 : s.1 ≤ 0 := hl
    rw [e]
    show (if (0 : Int) < s.1 ∨ (s.2.1.length : Int) = 24 then none else _) = _
    rw [if_neg (by omega)]
  | saw x =>
    have e : toldI (It.saw x).ws (It.saw x).kd s.2.1 = some (It.saw x) := by
      show (m_P_told_by_at_1 (("saw" : Str) :: x.1 :: decS x.2.1 :: x.2.2) 1 s.2.1).map It.saw = _
      rw [h.all (show (1 : Int) ≠ 0 by decide), told1 hok (SgOk.h hhr)]; rfl
    have hc := h.c1 rfl
    have hl2 : s.1 ≤ 1 := hl
    rw [e]
    show (if (1 : Int) < s.1 ∨ (s.2.2.1.length : Int) = 24 then none else _) = _
    rw [if_neg (by omega)]
  | tk t =>
    have e : toldI (It.tk t).ws (It.tk t).kd s.2.1 = some (It.tk t) := by
      show (m_P_told_by_at_2 (It.tk t).ws 2 s.2.1).map It.tk = _
      rw [h.all (show (2 : Int) ≠ 0 by decide), told2N hok (TalkOk.h hhr)]; rfl
    have hc := h.c2 rfl
    have hl2 : s.1 ≤ 2 := hl
    rw [e]
    show (if (2 : Int) < s.1 ∨ (s.2.2.2.1.length : Int) = 120 then none else _) = _
    rw [if_neg (by omega)]
  | sy y =>
    have e : toldI (It.sy y).ws (It.sy y).kd s.2.1 = some (It.sy y) := by
      show (m_P_told_by_at_3 (It.sy y).ws 3 s.2.1).map It.sy = _
      rw [h.all (show (3 : Int) ≠ 0 by decide), told3N hok hhr]; rfl
    have hc := h.c3 rfl
    have hl2 : s.1 ≤ 3 := hl
    rw [e]
    show (if (3 : Int) < s.1 ∨ (s.2.2.2.2.length : Int) = 60 then none else _) = _
    rw [if_neg (by omega)]
theorem rd_run {v : V4} (h : GoodV v) (rest : List Str) : ∀ (q r p0 : List It) (k : Nat), itemsOf v = p0 ++ (q ++ r) → loopL rdStep (enumF k (q.map It.row ++ rest)) (stOf p0) = loopL rdStep (enumF (k + q.length) rest) (stOf (p0 ++ q))
  | [], r, p0, k, _ => by rw [List.append_nil]; rfl
  | i :: q, r, p0, k, e => by
    have hs := rd_next (rd_ok h (q := p0) (r := q ++ r) (i := i) (by rw [e]; rfl)) (good_names h).1
    have hs2 : rdStep (stOf p0) ((k : Int), i.row) = .nx (It.add (stOf p0) i) := by rw [rd_step, hs]
    show loopL rdStep (((k : Int), i.row) :: enumF (k + 1) (q.map It.row ++ rest)) (stOf p0) = _
    rw [loopL, hs2]
    have e2 : It.add (stOf p0) i = stOf (p0 ++ [i]) := by unfold stOf; rw [List.foldl_append]; rfl
    show loopL rdStep (enumF (k + 1) (q.map It.row ++ rest)) (It.add (stOf p0) i) = _
    rw [e2, rd_run h rest q r (p0 ++ [i]) (k + 1) (by rw [e, List.append_assoc]; rfl), List.append_assoc, List.length_cons, show k + (q.length + 1) = k + 1 + q.length by omega]
    rfl
theorem rd_all {v : V4} (h : GoodV v) (rest : List Str) : loopL rdStep (enumL ((itemsOf v).map It.row ++ rest)) rd0 = loopL rdStep (enumF (itemsOf v).length rest) (stOf (itemsOf v)) := by
  have := rd_run h rest (itemsOf v) [] [] 0 (by rw [List.append_nil]; rfl)
  rw [Nat.zero_add] at this
  exact this
theorem read_form (t : Str) : m_P_read_book t = lp (loopL rdStep (enumL (Txt.split t ("\n" : Str))) rd0) fun s => Except.ok (m_P_Book s.2.1 s.2.2.1 s.2.2.2.1 s.2.2.2.2) := rfl
theorem read_ok {v : V4} (h : GoodV v) (hn : ∀ r ∈ (itemsOf v).map It.row, 10 ∉ TL.tl r) : m_P_read_book (Str.join ("\n" : Str) ((itemsOf v).map It.row)) = .ok (bkV v) := by
  have hne : (itemsOf v).map It.row ≠ [] := fun z => by
    have h1 := (good_names h).2.2.1
    have h2 := congrArg List.length z
    unfold itemsOf at h2
    rw [List.length_map, List.length_append, List.length_map] at h2
    simp only [List.length_nil] at h2
    omega
  rw [read_form, split_rows hne hn]
  have := rd_all h []
  rw [List.append_nil] at this
  rw [this]
  show lp (.nx (stOf (itemsOf v))) _ = _
  rw [st_all]
  rfl
theorem read_bad {v : V4} (h : GoodV v) {r : Str} {rest : List Str} (hn : ∀ x ∈ (itemsOf v).map It.row ++ r :: rest, 10 ∉ TL.tl x) (hb : rdNext (stOf (itemsOf v)) r = none) : m_P_read_book (Str.join ("\n" : Str) ((itemsOf v).map It.row ++ r :: rest)) = .error ((itemsOf v).length : Int) := by
  rw [read_form, split_rows (by simp) hn, rd_all h]
  have ee : enumF (itemsOf v).length (r :: rest) = ((((itemsOf v).length : Nat) : Int), r) :: enumF ((itemsOf v).length + 1) rest := rfl
  rw [ee]
  have hs : rdStep (stOf (itemsOf v)) ((((itemsOf v).length : Nat) : Int), r) = .rt (.error (((itemsOf v).length : Nat) : Int)) := by rw [rd_step, hb]
  rw [loopL, hs]
  rfl
theorem next_full {s : RdS} {r : Str} {k : Int} (hk : kindOf (Txt.split r (" " : Str)) = k) (hc : cntOf s k = limOf k) : rdNext s r = none := by
  unfold rdNext
  rw [hk]
  split
  · rfl
  · rw [if_pos (.inr hc)]
theorem next_none {s : RdS} {r : Str} (h : toldI (Txt.split r (" " : Str)) (kindOf (Txt.split r (" " : Str))) s.2.1 = none) : rdNext s r = none := by
  unfold rdNext
  rw [h]
theorem st_v {v : V4} : (stOf (itemsOf v)).2.1 = v.1 ∧ (stOf (itemsOf v)).2.2.1 = v.2.1 ∧ (stOf (itemsOf v)).2.2.2.1 = v.2.2.1 ∧ (stOf (itemsOf v)).2.2.2.2 = v.2.2.2 := by
  obtain ⟨p1, p2, p3, p4⟩ := st_parts (itemsOf v) (0, [], [], [], [])
  exact ⟨p1.trans (items_per v), p2.trans (items_saw v), p3.trans (items_tk v), p4.trans (items_sy v)⟩
abbrev num75 (cell k : Int) : Int := ((cell % (100000000000000000000 : Int)) + ((7 : Int) * k)) * (48271 : Int) % (2147483647 : Int)
def sg75 (ns : List Str) (cell k : Int) : Sight := (nth ns (num75 cell k / 3 % 2), (1000000000000000000 : Int) - num75 cell k % 3, [("b" : Str)])
def tk75 (ns : List Str) (cell k : Int) : Talk := ((1000000000000000000 : Int) - num75 cell k % 3, nth ns (num75 cell k / 3 % 2), nth ns (1 - num75 cell k / 3 % 2), if num75 cell k / 7 % 2 = 0 then ("both" : Str) else ("one" : Str))
def sy75 (ns : List Str) (cell k : Int) : Sy := if num75 cell k / 7 % 2 = 0 then .unheard (nth ns (num75 cell k / 3 % 2)) (some ((1000000000000000000 : Int) - num75 cell k % 3)) else .silent (nth ns (num75 cell k / 3 % 2)) 0 ((1000000000000000000 : Int) - num75 cell k % 3)
theorem kr1 (ns : List Str) (cell k : Int) : krow ns 1 cell k = (It.saw (sg75 ns cell k)).row := by
  have w1 : ("saw " : Str) = ("saw" : Str) ++ (" " : Str) := by decide +kernel
  have w2 : (" b" : Str) = (" " : Str) ++ ("b" : Str) := by decide +kernel
  show ((((("saw " : Str) ++ nth ns (num75 cell k / 3 % 2)) ++ (" " : Str)) ++ decS ((1000000000000000000 : Int) - num75 cell k % 3)) ++ (" b" : Str)) = ("saw" : Str) ++ (" " : Str) ++ (nth ns (num75 cell k / 3 % 2) ++ (" " : Str) ++ (decS ((1000000000000000000 : Int) - num75 cell k % 3) ++ (" " : Str) ++ ("b" : Str)))
  rw [w1, w2]
  simp only [sapp]
theorem itk_both {h0 : Int} {a b : Str} : (It.tk (h0, a, b, ("both" : Str))).ws = [("talk" : Str), decS h0, a, b] := by
  show (if ("both" : Str) = ("one" : Str) then [("talk" : Str), decS h0, a, ("to" : Str), b] else [("talk" : Str), decS h0, a, b]) = _
  rw [if_neg (by decide +kernel)]
theorem itk_one {h0 : Int} {a b : Str} : (It.tk (h0, a, b, ("one" : Str))).ws = [("talk" : Str), decS h0, a, ("to" : Str), b] := by
  show (if ("one" : Str) = ("one" : Str) then [("talk" : Str), decS h0, a, ("to" : Str), b] else [("talk" : Str), decS h0, a, b]) = _
  rw [if_pos rfl]
theorem kr2 (ns : List Str) (cell k : Int) : krow ns 2 cell k = (It.tk (tk75 ns cell k)).row := by
  have w1 : ("talk " : Str) = ("talk" : Str) ++ (" " : Str) := by decide +kernel
  have w2 : (" to " : Str) = (" " : Str) ++ (("to" : Str) ++ (" " : Str)) := by decide +kernel
  have hn : ¬ ("both" : Str) = ("one" : Str) := by decide +kernel
  have e0 : krow ns 2 cell k = (((((("talk " : Str) ++ decS ((1000000000000000000 : Int) - num75 cell k % 3)) ++ (" " : Str)) ++ nth ns (num75 cell k / 3 % 2)) ++ nth ([(" " : Str), (" to " : Str)]) (num75 cell k / 7 % 2)) ++ nth ns (1 - num75 cell k / 3 % 2)) := rfl
  rw [e0]
  rcases (show num75 cell k / 7 % 2 = 0 ∨ num75 cell k / 7 % 2 = 1 by omega) with e | e
  · have et : tk75 ns cell k = ((1000000000000000000 : Int) - num75 cell k % 3, nth ns (num75 cell k / 3 % 2), nth ns (1 - num75 cell k / 3 % 2), ("both" : Str)) := by unfold tk75; rw [if_pos e]
    have ew : (It.tk (tk75 ns cell k)).ws = [("talk" : Str), decS ((1000000000000000000 : Int) - num75 cell k % 3), nth ns (num75 cell k / 3 % 2), nth ns (1 - num75 cell k / 3 % 2)] := by
      rw [et]
      exact itk_both
    unfold It.row
    rw [ew, e]
    show (((((("talk " : Str) ++ decS ((1000000000000000000 : Int) - num75 cell k % 3)) ++ (" " : Str)) ++ nth ns (num75 cell k / 3 % 2)) ++ (" " : Str)) ++ nth ns (1 - num75 cell k / 3 % 2)) = ("talk" : Str) ++ (" " : Str) ++ (decS ((1000000000000000000 : Int) - num75 cell k % 3) ++ (" " : Str) ++ (nth ns (num75 cell k / 3 % 2) ++ (" " : Str) ++ nth ns (1 - num75 cell k / 3 % 2)))
    rw [w1]
    simp only [sapp]
  · have et : tk75 ns cell k = ((1000000000000000000 : Int) - num75 cell k % 3, nth ns (num75 cell k / 3 % 2), nth ns (1 - num75 cell k / 3 % 2), ("one" : Str)) := by unfold tk75; rw [if_neg (by omega)]
    have ew : (It.tk (tk75 ns cell k)).ws = [("talk" : Str), decS ((1000000000000000000 : Int) - num75 cell k % 3), nth ns (num75 cell k / 3 % 2), ("to" : Str), nth ns (1 - num75 cell k / 3 % 2)] := by
      rw [et]
      exact itk_one
    unfold It.row
    rw [ew, e]
    show (((((("talk " : Str) ++ decS ((1000000000000000000 : Int) - num75 cell k % 3)) ++ (" " : Str)) ++ nth ns (num75 cell k / 3 % 2)) ++ (" to " : Str)) ++ nth ns (1 - num75 cell k / 3 % 2)) = ("talk" : Str) ++ (" " : Str) ++ (decS ((1000000000000000000 : Int) - num75 cell k % 3) ++ (" " : Str) ++ (nth ns (num75 cell k / 3 % 2) ++ (" " : Str) ++ (("to" : Str) ++ (" " : Str) ++ nth ns (1 - num75 cell k / 3 % 2))))
    rw [w1, w2]
    simp only [sapp]
theorem kr3 (ns : List Str) (cell k : Int) : krow ns 3 cell k = (It.sy (sy75 ns cell k)).row := by
  have w1 : (" heard nobody by " : Str) = (" " : Str) ++ (("heard" : Str) ++ ((" " : Str) ++ (("nobody" : Str) ++ ((" " : Str) ++ (("by" : Str) ++ (" " : Str)))))) := by decide +kernel
  have w2 : (" told nobody from 0 to " : Str) = (" " : Str) ++ (("told" : Str) ++ ((" " : Str) ++ (("nobody" : Str) ++ ((" " : Str) ++ (("from" : Str) ++ ((" " : Str) ++ (decS 0 ++ ((" " : Str) ++ (("to" : Str) ++ (" " : Str)))))))))) := by decide +kernel
  have e0 : krow ns 3 cell k = if decide (num75 cell k / 7 % 2 = 0) = true then (nth ns (num75 cell k / 3 % 2) ++ (" heard nobody by " : Str)) ++ decS ((1000000000000000000 : Int) - num75 cell k % 3) else (nth ns (num75 cell k / 3 % 2) ++ (" told nobody from 0 to " : Str)) ++ decS ((1000000000000000000 : Int) - num75 cell k % 3) := rfl
  rw [e0]
  unfold sy75
  by_cases e : num75 cell k / 7 % 2 = 0
  · rw [decide_eq_true e, if_pos rfl, if_pos e]
    show _ = nth ns (num75 cell k / 3 % 2) ++ (" " : Str) ++ (("heard" : Str) ++ (" " : Str) ++ (("nobody" : Str) ++ (" " : Str) ++ (("by" : Str) ++ (" " : Str) ++ decS ((1000000000000000000 : Int) - num75 cell k % 3))))
    rw [w1]
    simp only [sapp]
  · rw [decide_eq_false e, if_neg (by decide), if_neg e]
    show _ = nth ns (num75 cell k / 3 % 2) ++ (" " : Str) ++ (("told" : Str) ++ (" " : Str) ++ (("nobody" : Str) ++ (" " : Str) ++ (("from" : Str) ++ (" " : Str) ++ (decS 0 ++ (" " : Str) ++ (("to" : Str) ++ (" " : Str) ++ decS ((1000000000000000000 : Int) - num75 cell k % 3))))))
    rw [w2]
    simp only [sapp]
abbrev v75 (ns P : List Str) (cell : Int) (m1 m2 m3 : Int) : V4 := (P, (upto m1).map (sg75 ns cell), (upto m2).map (tk75 ns cell), (upto m3).map (sy75 ns cell))
structure P75 (ns P : List Str) : Prop where
  ok : NamesOk P
  len : 2 ≤ P.length ∧ P.length ≤ 24
  m0 : nth ns 0 ∈ P
  m1 : nth ns 1 ∈ P
  ne : nth ns 0 ≠ nth ns 1
theorem P75.at {ns P : List Str} (h : P75 ns P) {i : Int} (hi : i = 0 ∨ i = 1) : nth ns i ∈ P := by
  rcases hi with rfl | rfl
  · exact h.m0
  · exact h.m1
theorem hour75 {n : Int} : m_P_is_hour (Va.int ((1000000000000000000 : Int) - n % 3)) = true := by
  rw [hour_iff, decide_eq_true (by omega), decide_eq_true (by omega)]
  rfl
theorem it1 {ns P : List Str} (h : P75 ns P) (cell k : Int) : ItOk P (.saw (sg75 ns cell k)) ∧ It.hr (.saw (sg75 ns cell k)) := by
  have hw := h.at (i := num75 cell k / 3 % 2) (by omega)
  have ht : m_P_is_tale [("b" : Str)] = true := by decide +kernel
  refine ⟨?_, ⟨(nm75_len (h.ok.ok _ hw)), by show 0 ≤ (1000000000000000000 : Int) - num75 cell k % 3 ∧ (1000000000000000000 : Int) - num75 cell k % 3 ≤ 1000000000000000000; omega, by show 1 ≤ 6; decide, fun w hw => ?_⟩⟩
  · show m_P_is_sight (sg75 ns cell k) P = true
    unfold m_P_is_sight
    rw [tup_of3]
    show (decide (nth ns (num75 cell k / 3 % 2) ∈ P) && (m_P_is_hour (Va.int ((1000000000000000000 : Int) - num75 cell k % 3)) && m_P_is_tale [("b" : Str)])) = true
    rw [hour75, ht, decide_eq_true hw]
    rfl
  · rw [List.mem_singleton.mp hw]; decide +kernel
theorem it2 {ns P : List Str} (h : P75 ns P) (cell k : Int) : ItOk P (.tk (tk75 ns cell k)) ∧ It.hr (.tk (tk75 ns cell k)) := by
  have hw := h.at (i := num75 cell k / 3 % 2) (by omega)
  have hw2 := h.at (i := 1 - num75 cell k / 3 % 2) (by omega)
  refine ⟨talk_true hour75 ?_ ?_, ⟨by show 0 ≤ (1000000000000000000 : Int) - num75 cell k % 3 ∧ (1000000000000000000 : Int) - num75 cell k % 3 ≤ 1000000000000000000; omega, nm75_len (h.ok.ok _ hw), nm75_len (h.ok.ok _ hw2)⟩⟩
  · have hne : nth ns (num75 cell k / 3 % 2) ≠ nth ns (1 - num75 cell k / 3 % 2) := by
      rcases (show num75 cell k / 3 % 2 = 0 ∨ num75 cell k / 3 % 2 = 1 by omega) with e | e
      · rw [e]; exact h.ne
      · rw [e]; exact h.ne.symm
    unfold m_P_are_two
    rw [decide_eq_true hw, decide_eq_true hw2, decide_eq_false hne]
    rfl
  · split
    · exact List.mem_cons_self
    · exact List.mem_cons_of_mem _ List.mem_cons_self
theorem it3 {ns P : List Str} (h : P75 ns P) (cell k : Int) : ItOk P (.sy (sy75 ns cell k)) ∧ It.hr (.sy (sy75 ns cell k)) := by
  have hw := h.at (i := num75 cell k / 3 % 2) (by omega)
  have hl := nm75_len (h.ok.ok _ hw)
  have hr : 0 ≤ (1000000000000000000 : Int) - num75 cell k % 3 ∧ (1000000000000000000 : Int) - num75 cell k % 3 ≤ 1000000000000000000 := by omega
  have hd : (0 : Int) ≤ default ∧ (default : Int) ≤ 1000000000000000000 := ⟨by decide, by decide⟩
  unfold sy75
  split
  · exact ⟨say_unheard hw fun i hi => by cases hi; exact hour75, ⟨hl, by simp only [Sy.other]; decide +kernel, hd, hd, fun i hi => by cases hi; exact hr⟩⟩
  · exact ⟨say_silent hw (by rw [hour_iff]; decide) hour75 (by omega), ⟨hl, by simp only [Sy.other]; decide +kernel, by simp only [Sy.h1]; decide, hr, fun i hi => nomatch hi⟩⟩
theorem v75_good {ns P : List Str} (h : P75 ns P) (cell : Int) {a b c : Int} (ha : a ≤ 24) (hb : b ≤ 120) (hc : c ≤ 60) : GoodV (v75 ns P cell a b c) := by
  refine ⟨good_persons h.ok ⟨by have := h.len; show 1 ≤ P.length; omega, h.len.2⟩, rdSights (fun x hx => ?_) (by rw [List.length_map, upto_len]; omega), rdTalks (fun x hx => ?_) (by rw [List.length_map, upto_len]; omega), rdSays (fun x hx => ?_) (by rw [List.length_map, upto_len]; omega)⟩
  · obtain ⟨k, _, rfl⟩ := List.mem_map.mp hx
    exact (it1 h cell k).1
  · obtain ⟨k, _, rfl⟩ := List.mem_map.mp hx
    exact (it2 h cell k).1
  · obtain ⟨k, _, rfl⟩ := List.mem_map.mp hx
    exact (it3 h cell k).1
abbrev rows75 (ns P : List Str) (cell : Int) (m1 m2 m3 : Int) : List Str := (P.map fun e => ("person " : Str) ++ e) ++ ((upto m1).map (krow ns 1 cell) ++ ((upto m2).map (krow ns 2 cell) ++ (upto m3).map (krow ns 3 cell)))
theorem rows_v75 {ns P : List Str} {cell a b c : Int} : rows75 ns P cell a b c = (itemsOf (v75 ns P cell a b c)).map It.row := by
  have e1 : (P.map fun e => ("person " : Str) ++ e) = (P.map It.per).map It.row := by rw [List.map_map]; exact List.map_congr_left fun e _ => rw_per e
  have e2 : (upto a).map (krow ns 1 cell) = (((upto a).map (sg75 ns cell)).map It.saw).map It.row := by rw [List.map_map, List.map_map]; exact List.map_congr_left fun e _ => kr1 ns cell e
  have e3 : (upto b).map (krow ns 2 cell) = (((upto b).map (tk75 ns cell)).map It.tk).map It.row := by rw [List.map_map, List.map_map]; exact List.map_congr_left fun e _ => kr2 ns cell e
  have e4 : (upto c).map (krow ns 3 cell) = (((upto c).map (sy75 ns cell)).map It.sy).map It.row := by rw [List.map_map, List.map_map]; exact List.map_congr_left fun e _ => kr3 ns cell e
  unfold itemsOf
  rw [List.map_append, List.map_append, List.map_append, ← e1, ← e2, ← e3, ← e4]
theorem krow_wd {ns P : List Str} (h : P75 ns P) {b cell k : Int} (hb : b = 1 ∨ b = 2 ∨ b = 3) : 10 ∉ TL.tl (krow ns b cell k) ∧ kindOf (Txt.split (krow ns b cell k) (" " : Str)) = b := by
  rcases hb with rfl | rfl | rfl
  · rw [kr1]
    have g := it1 h cell k
    exact ⟨row_nl (item_wd h.ok.ok g.1 g.2), row_kind h.ok.ok g.1 g.2⟩
  · rw [kr2]
    have g := it2 h cell k
    exact ⟨row_nl (item_wd h.ok.ok g.1 g.2), row_kind h.ok.ok g.1 g.2⟩
  · rw [kr3]
    have g := it3 h cell k
    exact ⟨row_nl (item_wd h.ok.ok g.1 g.2), row_kind h.ok.ok g.1 g.2⟩
theorem per_wd {n : Str} (h : m_P_is_name (Va.str n) = true) : 10 ∉ TL.tl (("person " : Str) ++ n) ∧ kindOf (Txt.split (("person " : Str) ++ n) (" " : Str)) = 0 := by
  rw [rw_per n]
  exact ⟨row_nl (item_wd (p := []) (fun _ z => nomatch z) (i := .per n) h trivial), row_kind (p := []) (fun _ z => nomatch z) (i := .per n) h trivial⟩
theorem nl75 {ns P : List Str} (h : P75 ns P) {cell : Int} {r : Str} {a b c : Int} (hr : r ∈ rows75 ns P cell a b c) : 10 ∉ TL.tl r := by
  rcases List.mem_append.mp hr with hr | hr
  · obtain ⟨n, hn, rfl⟩ := List.mem_map.mp hr
    exact (per_wd (h.ok.ok n hn)).1
  · rcases List.mem_append.mp hr with hr | hr
    · obtain ⟨k, _, rfl⟩ := List.mem_map.mp hr
      exact (krow_wd h (.inl rfl)).1
    · rcases List.mem_append.mp hr with hr | hr
      · obtain ⟨k, _, rfl⟩ := List.mem_map.mp hr
        exact (krow_wd h (.inr (.inl rfl))).1
      · obtain ⟨k, _, rfl⟩ := List.mem_map.mp hr
        exact (krow_wd h (.inr (.inr rfl))).1
def bad75r (ns : List Str) : Str := (((nth ns (0 : Int)) ++ (" knew by 1" : Str)) ++ ("00000000000000000" : Str)) ++ ("1" : Str)
theorem bad_is (ns : List Str) : bad75r ns = Str.join (" " : Str) [nth ns 0, ("knew" : Str), ("by" : Str), ("1000000000000000001" : Str)] := by
  have w1 : (" knew by 1" : Str) ++ (("00000000000000000" : Str) ++ ("1" : Str)) = (" " : Str) ++ (("knew" : Str) ++ ((" " : Str) ++ (("by" : Str) ++ ((" " : Str) ++ ("1000000000000000001" : Str))))) := by decide +kernel
  show (((nth ns (0 : Int)) ++ (" knew by 1" : Str)) ++ ("00000000000000000" : Str)) ++ ("1" : Str) = nth ns 0 ++ (" " : Str) ++ (("knew" : Str) ++ (" " : Str) ++ (("by" : Str) ++ (" " : Str) ++ ("1000000000000000001" : Str)))
  simp only [sapp]
  rw [w1]
theorem bad_wd {ns : List Str} (h : m_P_is_name (Va.str (nth ns 0)) = true) : ∀ w ∈ [nth ns 0, ("knew" : Str), ("by" : Str), ("1000000000000000001" : Str)], Wd w := all_cons (name_wd h) (by unfold Wd; decide +kernel)
theorem say_no (a : Str) (p : List Str) : m_P_is_saying (.knew a (-1)) p = false := by
  have hh : m_P_is_hour (Va.int (-1)) = false := by rw [hour_iff]; decide
  unfold m_P_is_saying
  simp [Sy.len, Sy.who, Sy.kd, Sy.h1, n_ks, hh]
theorem bad_no {ns : List Str} (h : m_P_is_name (Va.str (nth ns 0)) = true) (s : RdS) : rdNext s (bad75r ns) = none ∧ 10 ∉ TL.tl (bad75r ns) := by
  have hw := bad_wd h
  rw [bad_is]
  refine ⟨next_none ?_, row_nl hw⟩
  rw [split_words (by simp) hw]
  have hk : kindOf [nth ns 0, ("knew" : Str), ("by" : Str), ("1000000000000000001" : Str)] = 3 := by
    unfold kindOf
    rw [show nth [nth ns 0, ("knew" : Str), ("by" : Str), ("1000000000000000001" : Str)] 0 = nth ns 0 from nthN (i := 0) rfl, decide_eq_false (name_kind h)]
    rfl
  rw [hk]
  show (m_P_told_by_at_3 [nth ns 0, ("knew" : Str), ("by" : Str), ("1000000000000000001" : Str)] 3 s.2.1).map It.sy = none
  have hs : m_P_saying_in [nth ns 0, ("knew" : Str), ("by" : Str), ("1000000000000000001" : Str)] = some (Sy.knew (nth ns 0) (-1)) := by
    have hh : m_P_hour_in ("1000000000000000001" : Str) = -1 := by decide +kernel
    have e0 : nth [nth ns 0, ("knew" : Str), ("by" : Str), ("1000000000000000001" : Str)] 0 = nth ns 0 := nthN (i := 0) rfl
    have e3 : nth [nth ns 0, ("knew" : Str), ("by" : Str), ("1000000000000000001" : Str)] 3 = ("1000000000000000001" : Str) := nthN (i := 3) rfl
    have ec : cut [nth ns 0, ("knew" : Str), ("by" : Str), ("1000000000000000001" : Str)] (some 1) (some 3) = [("knew" : Str), ("by" : Str)] := rfl
    unfold m_P_saying_in
    rw [e0, e3, ec, hh]
    rfl
  unfold m_P_told_by_at_3
  rw [hs]
  show ((if m_P_is_saying (Sy.knew (nth ns 0) (-1)) s.2.1 = true then some (Sy.knew (nth ns 0) (-1)) else none).map It.sy) = none
  rw [say_no]
  rfl
theorem upto_cut {n m : Int} (h : 0 ≤ m ∧ m < n) : ∃ rest, upto n = upto m ++ m :: rest := by
  unfold upto
  obtain ⟨b, hb⟩ : ∃ b : Nat, n.toNat = m.toNat + (b + 1) := ⟨n.toNat - m.toNat - 1, by omega⟩
  rw [hb, List.range_add, List.range_succ_eq_map, List.map_append]
  refine ⟨List.map (fun i : Nat => (i : Int)) (List.map (fun x => m.toNat + x) (List.map Nat.succ (List.range b))), ?_⟩
  rw [List.map_cons, List.map_cons]
  have e : ((m.toNat + 0 : Nat) : Int) = m := by omega
  rw [e]
theorem kr_cut {ns : List Str} {b cell n m : Int} (h : 0 ≤ m ∧ m < n) : ∃ rest, (upto n).map (krow ns b cell) = (upto m).map (krow ns b cell) ++ krow ns b cell m :: rest := by
  obtain ⟨rest, e⟩ := upto_cut h
  exact ⟨rest.map (krow ns b cell), by rw [e, List.map_append, List.map_cons]⟩
theorem up0 {α : Type} {f : Int → α} : (upto 0).map f = [] := rfl
structure Dec75 (ns P : List Str) (cell n1 n2 n3 a : Int) : Prop where
  ex : ∃ m1 m2 m3 rest b m, rows75 ns P cell n1 n2 n3 = rows75 ns P cell m1 m2 m3 ++ krow ns b cell m :: rest ∧ a = P.length + m1 + m2 + m3 ∧ 0 ≤ m1 ∧ 0 ≤ m2 ∧ 0 ≤ m3 ∧
    ((b = 1 ∧ m1 < n1 ∧ m2 = 0 ∧ m3 = 0) ∨ (b = 2 ∧ m1 = n1 ∧ m2 < n2 ∧ m3 = 0) ∨ (b = 3 ∧ m1 = n1 ∧ m2 = n2 ∧ m3 < n3))
theorem dec75 {ns P : List Str} {cell n1 n2 n3 a : Int} (h1 : 0 ≤ n1) (h2 : 0 ≤ n2) (h3 : 0 ≤ n3) (ha : P.length ≤ a ∧ a < P.length + n1 + n2 + n3) : Dec75 ns P cell n1 n2 n3 a := ⟨by
  by_cases c1 : a < P.length + n1
  · obtain ⟨rest, e⟩ := kr_cut (ns := ns) (b := 1) (cell := cell) (n := n1) (m := a - P.length) (by omega)
    refine ⟨a - P.length, 0, 0, rest ++ ((upto n2).map (krow ns 2 cell) ++ (upto n3).map (krow ns 3 cell)), 1, a - P.length, ?_, by omega, by omega, by omega, by omega, .inl ⟨rfl, by omega, rfl, rfl⟩⟩
    rw [rows75, rows75, e, up0, up0]
    simp only [List.append_nil, List.append_assoc, List.cons_append]
  · by_cases c2 : a < P.length + n1 + n2
    · obtain ⟨rest, e⟩ := kr_cut (ns := ns) (b := 2) (cell := cell) (n := n2) (m := a - P.length - n1) (by omega)
      refine ⟨n1, a - P.length - n1, 0, rest ++ (upto n3).map (krow ns 3 cell), 2, a - P.length - n1, ?_, by omega, by omega, by omega, by omega, .inr (.inl ⟨rfl, rfl, by omega, rfl⟩)⟩
      rw [rows75, rows75, e, up0]
      simp only [List.append_nil, List.append_assoc, List.cons_append]
    · obtain ⟨rest, e⟩ := kr_cut (ns := ns) (b := 3) (cell := cell) (n := n3) (m := a - P.length - n1 - n2) (by omega)
      refine ⟨n1, n2, a - P.length - n1 - n2, rest, 3, a - P.length - n1 - n2, ?_, by omega, by omega, by omega, by omega, .inr (.inr ⟨rfl, rfl, rfl, by omega⟩)⟩
      rw [rows75, rows75, e]
      simp only [List.append_assoc, List.cons_append]⟩
theorem rows_len {ns P : List Str} {cell a b c : Int} (ha : 0 ≤ a) (hb : 0 ≤ b) (hc : 0 ≤ c) : ((rows75 ns P cell a b c).length : Int) = P.length + a + b + c := by
  simp only [rows75, List.length_append, List.length_map, upto_len]
  omega
theorem set_mid {α : Type} {A B : List α} {x y : α} : (A ++ x :: B).set A.length y = A ++ y :: B := by
  rw [List.set_append_right _ _ (Nat.le_refl _), Nat.sub_self]
  rfl
theorem set_late {α : Type} {A B : List α} {x y : α} {i : Nat} (h : A.length < i) : (A ++ x :: B).set i y = A ++ x :: B.set (i - A.length - 1) y := by
  rw [List.set_append_right _ _ (by omega)]
  obtain ⟨j, hj⟩ : ∃ j, i - A.length = j + 1 := ⟨i - A.length - 1, by omega⟩
  rw [hj]
  rfl
def fin75 (R : List Str) (d : Option Int) (mn : List Int) : Bool := ls (m_P_read_book (Str.join ("\n" : Str) R)) (fun e => ((!d.isNone) && (decide (e = (d.getD default))))) (fun y => lt ([((m_P_Book_persons y).length : Int), ((m_P_Book_sights y).length : Int), ((m_P_Book_talks y).length : Int), ((m_P_Book_sayings y).length : Int)]) fun t => (d.isNone) && (decide (t = mn)))
theorem fin_bad {v : V4} (h : GoodV v) {R : List Str} {r : Str} {rest : List Str} {mn : List Int} {e : Int} (eR : R = (itemsOf v).map It.row ++ r :: rest) (hn : ∀ x ∈ R, 10 ∉ TL.tl x) (hb : rdNext (stOf (itemsOf v)) r = none) (ee : e = ((itemsOf v).length : Int)) : fin75 R (some e) mn = true := by
  subst eR ee
  unfold fin75
  rw [read_bad h hn hb]
  show (true && decide ((((itemsOf v).length : Nat) : Int) = (((itemsOf v).length : Nat) : Int))) = true
  rw [decide_eq_true rfl]
  rfl
theorem fin_ok {v : V4} (h : GoodV v) {R : List Str} {mn : List Int} (eR : R = (itemsOf v).map It.row) (hn : ∀ x ∈ R, 10 ∉ TL.tl x) (hm : mn = [(v.1.length : Int), (v.2.1.length : Int), (v.2.2.1.length : Int), (v.2.2.2.length : Int)]) : fin75 R none mn = true := by
  subst eR hm
  unfold fin75
  rw [read_ok h hn]
  show (true && decide (([(v.1.length : Int), (v.2.1.length : Int), (v.2.2.1.length : Int), (v.2.2.2.length : Int)] : List Int) = [(v.1.length : Int), (v.2.1.length : Int), (v.2.2.1.length : Int), (v.2.2.2.length : Int)])) = true
  rw [decide_eq_true rfl]
  rfl
theorem iv_len {ns P : List Str} {cell a b c : Int} : ((itemsOf (v75 ns P cell a b c)).length : Int) = (rows75 ns P cell a b c).length := by rw [rows_v75, List.length_map]
def due75 (L n0 n1 n2 n3 : Int) : Option Int := if 24 < n0 then some 24 else if 24 < n1 then some (L + 24) else if 120 < n2 then some (L + n1 + 120) else if 60 < n3 then some (L + n1 + n2 + 60) else none
theorem mn_is {mn : List Int} (h : mn.length = 4) : mn = [nth mn 0, nth mn 1, nth mn 2, nth mn 3] := by
  match mn, h with
  | [a, b, c, d], _ => rfl
theorem few75 {ns P : List Str} {mn : List Int} {cell : Int} (h : P75 ns P) (hm : Mn75 mn) (h0 : nth mn 0 = (P.length : Int)) : ∀ (bad : Bool) (a : Int), (bad = true → (P.length : Int) ≤ a ∧ a < ((rows75 ns P cell (nth mn 1) (nth mn 2) (nth mn 3)).length : Int)) →
    fin75 (if bad = true then (rows75 ns P cell (nth mn 1) (nth mn 2) (nth mn 3)).set a.toNat (bad75r ns) else rows75 ns P cell (nth mn 1) (nth mn 2) (nth mn 3)) (if bad = true then (if ((due75 P.length (nth mn 0) (nth mn 1) (nth mn 2) (nth mn 3)).isNone || decide (a < (due75 P.length (nth mn 0) (nth mn 1) (nth mn 2) (nth mn 3)).getD default)) = true then some a else due75 P.length (nth mn 0) (nth mn 1) (nth mn 2) (nth mn 3)) else due75 P.length (nth mn 0) (nth mn 1) (nth mn 2) (nth mn 3)) mn = true := by
  intro bad a hba
  have hi1 := hm.hi 1 (by decide)
  have hi2 := hm.hi 2 (by decide)
  have hi3 := hm.hi 3 (by decide)
  have hpl := h.len
  have hmn := mn_is hm.len
  generalize hn0 : nth mn 0 = n0 at *
  generalize hn1 : nth mn 1 = n1 at *
  generalize hn2 : nth mn 2 = n2 at *
  generalize hn3 : nth mn 3 = n3 at *
  have hlen := rows_len (ns := ns) (P := P) (cell := cell) hi1.1 hi2.1 hi3.1
  have hnl : ∀ x ∈ rows75 ns P cell n1 n2 n3, 10 ∉ TL.tl x := fun x hx => nl75 h hx
  have hbn := fun s => bad_no (ns := ns) (h.ok.ok _ h.m0) s
  have hnlb : ∀ (i : Nat) (x : Str), x ∈ (rows75 ns P cell n1 n2 n3).set i (bad75r ns) → 10 ∉ TL.tl x := fun i x hx => by
    rcases List.mem_or_eq_of_mem_set hx with hx | rfl
    · exact hnl x hx
    · exact (hbn rd0).2
  -- the row at a place ahead of the due one
  have atA : ∀ a, (P.length : Int) ≤ a ∧ a < ((rows75 ns P cell n1 n2 n3).length : Int) → (∀ d, due75 P.length n0 n1 n2 n3 = some d → a ≤ d) → ∃ (v : V4) (x : Str) (rest : List Str), GoodV v ∧ rows75 ns P cell n1 n2 n3 = (itemsOf v).map It.row ++ x :: rest ∧ ((itemsOf v).length : Int) = a ∧ (due75 P.length n0 n1 n2 n3 = some a → rdNext (stOf (itemsOf v)) x = none) := by
    intro a ha hd
    obtain ⟨m1, m2, m3, rest, b, m, e1, e2, g1, g2, g3, hb⟩ := (dec75 (ns := ns) (P := P) (cell := cell) (a := a) hi1.1 hi2.1 hi3.1 ⟨ha.1, by omega⟩).ex
    have lim : m1 ≤ 24 ∧ m2 ≤ 120 ∧ m3 ≤ 60 := by
      unfold due75 at hd
      rw [if_neg (by omega)] at hd
      by_cases c1 : 24 < n1
      · rw [if_pos c1] at hd
        have := hd _ rfl
        omega
      · rw [if_neg c1] at hd
        by_cases c2 : 120 < n2
        · rw [if_pos c2] at hd
          have := hd _ rfl
          omega
        · rw [if_neg c2] at hd
          by_cases c3 : 60 < n3
          · rw [if_pos c3] at hd
            have := hd _ rfl
            omega
          · omega
    have gv := v75_good h cell lim.1 lim.2.1 lim.2.2
    refine ⟨v75 ns P cell m1 m2 m3, krow ns b cell m, rest, gv, by rw [e1, rows_v75], ?_, fun hda => ?_⟩
    · rw [iv_len, rows_len g1 g2 g3]; omega
    · have hk := (krow_wd h (cell := cell) (k := m) (b := b) (by omega)).2
      obtain ⟨q1, q2, q3, q4⟩ := st_v (v := v75 ns P cell m1 m2 m3)
      refine next_full hk ?_
      have l2 : ((stOf (itemsOf (v75 ns P cell m1 m2 m3))).2.2.1.length : Int) = m1 := by rw [q2, List.length_map, upto_len]; omega
      have l3 : ((stOf (itemsOf (v75 ns P cell m1 m2 m3))).2.2.2.1.length : Int) = m2 := by rw [q3, List.length_map, upto_len]; omega
      have l4 : ((stOf (itemsOf (v75 ns P cell m1 m2 m3))).2.2.2.2.length : Int) = m3 := by rw [q4, List.length_map, upto_len]; omega
      unfold due75 at hda
      rw [if_neg (by omega)] at hda
      have key : (b = 1 ∧ m1 = 24) ∨ (b = 2 ∧ m2 = 120) ∨ (b = 3 ∧ m3 = 60) := by
        by_cases c1 : 24 < n1
        · rw [if_pos c1] at hda
          have := Option.some.inj hda
          omega
        · rw [if_neg c1] at hda
          by_cases c2 : 120 < n2
          · rw [if_pos c2] at hda
            have := Option.some.inj hda
            omega
          · rw [if_neg c2] at hda
            by_cases c3 : 60 < n3
            · rw [if_pos c3] at hda
              have := Option.some.inj hda
              omega
            · rw [if_neg c3] at hda
              cases hda
      rcases key with ⟨rfl, k1⟩ | ⟨rfl, k1⟩ | ⟨rfl, k1⟩
      · show ((stOf (itemsOf (v75 ns P cell m1 m2 m3))).2.2.1.length : Int) = 24; omega
      · show ((stOf (itemsOf (v75 ns P cell m1 m2 m3))).2.2.2.1.length : Int) = 120; omega
      · show ((stOf (itemsOf (v75 ns P cell m1 m2 m3))).2.2.2.2.length : Int) = 60; omega
  have dlt : ∀ d, due75 P.length n0 n1 n2 n3 = some d → (P.length : Int) ≤ d ∧ d < ((rows75 ns P cell n1 n2 n3).length : Int) := fun d hd => by
    unfold due75 at hd
    rw [if_neg (by omega)] at hd
    by_cases c1 : 24 < n1
    · rw [if_pos c1] at hd; have := Option.some.inj hd; omega
    · rw [if_neg c1] at hd
      by_cases c2 : 120 < n2
      · rw [if_pos c2] at hd; have := Option.some.inj hd; omega
      · rw [if_neg c2] at hd
        by_cases c3 : 60 < n3
        · rw [if_pos c3] at hd; have := Option.some.inj hd; omega
        · rw [if_neg c3] at hd; cases hd
  cases bad with
  | false =>
    rw [if_neg (by decide), if_neg (by decide)]
    cases hd : due75 P.length n0 n1 n2 n3 with
    | some d =>
      obtain ⟨v, x, rest, g1, g2, g3, g4⟩ := atA d (dlt d hd) (fun z hz => by rw [hd] at hz; cases hz; exact Int.le_refl _)
      exact fin_bad g1 g2 hnl (g4 hd) g3.symm
    | none =>
      have hle : n1 ≤ 24 ∧ n2 ≤ 120 ∧ n3 ≤ 60 := by
        unfold due75 at hd
        rw [if_neg (by omega)] at hd
        by_cases c1 : 24 < n1
        · rw [if_pos c1] at hd; cases hd
        · rw [if_neg c1] at hd
          by_cases c2 : 120 < n2
          · rw [if_pos c2] at hd; cases hd
          · rw [if_neg c2] at hd
            by_cases c3 : 60 < n3
            · rw [if_pos c3] at hd; cases hd
            · omega
      refine fin_ok (v75_good h cell hle.1 hle.2.1 hle.2.2) rows_v75 hnl ?_
      rw [hmn]
      show [n0, n1, n2, n3] = [(P.length : Int), (((upto n1).map (sg75 ns cell)).length : Int), (((upto n2).map (tk75 ns cell)).length : Int), (((upto n3).map (sy75 ns cell)).length : Int)]
      rw [List.length_map, List.length_map, List.length_map, upto_len, upto_len, upto_len, h0, Int.toNat_of_nonneg hi1.1, Int.toNat_of_nonneg hi2.1, Int.toNat_of_nonneg hi3.1]
  | true =>
    rw [if_pos rfl, if_pos rfl]
    have ha := hba rfl
    have front : (∀ d, due75 P.length n0 n1 n2 n3 = some d → a ≤ d) → fin75 ((rows75 ns P cell n1 n2 n3).set a.toNat (bad75r ns)) (some a) mn = true := fun hd => by
      obtain ⟨v, x, rest, g1, g2, g3, _⟩ := atA a ha hd
      have ea : a.toNat = ((itemsOf v).map It.row).length := by rw [List.length_map]; omega
      refine fin_bad g1 (r := bad75r ns) (rest := rest) ?_ (fun x hx => hnlb _ x hx) (hbn _).1 g3.symm
      rw [g2, ea, set_mid]
    cases hd : due75 P.length n0 n1 n2 n3 with
    | none =>
      rw [if_pos (show ((none : Option Int).isNone || decide (a < (none : Option Int).getD default)) = true from rfl)]
      exact front fun d hz => by rw [hd] at hz; cases hz
    | some d =>
      by_cases hlt : a < d
      · rw [if_pos (by show (false || decide (a < d)) = true; rw [decide_eq_true hlt]; rfl)]
        exact front fun z hz => by rw [hd] at hz; cases hz; omega
      · rw [if_neg (by show ¬ (false || decide (a < d)) = true; rw [decide_eq_false hlt]; decide)]
        by_cases he : a = d
        · subst he
          exact front fun z hz => by rw [hd] at hz; cases hz; exact Int.le_refl _
        · obtain ⟨v, x, rest, g1, g2, g3, g4⟩ := atA d (dlt d hd) (fun z hz => by rw [hd] at hz; cases hz; exact Int.le_refl _)
          refine fin_bad g1 (r := x) (rest := rest.set (a.toNat - ((itemsOf v).map It.row).length - 1) (bad75r ns)) ?_ (fun x hx => hnlb _ x hx) (g4 hd) g3.symm
          rw [g2, set_late (by rw [List.length_map]; omega)]
theorem lots75 {ns P : List Str} {mn : List Int} {R R2 : List Str} {cell : Int} {x : Str} {rest : List Str} (h : P75 ns P) (h24 : P.length = 24) (hx : m_P_is_name (Va.str x) = true) (e : R = (P.map fun e => ("person " : Str) ++ e) ++ (("person " : Str) ++ x) :: rest) (hn : ∀ y ∈ R, 10 ∉ TL.tl y) : fin75 R (some 24) mn = true := by
  have ev : (P.map fun e => ("person " : Str) ++ e) = (itemsOf (v75 ns P cell 0 0 0)).map It.row := by
    rw [← rows_v75]
    simp only [rows75, up0, List.append_nil]
  have g := v75_good h cell (a := 0) (b := 0) (c := 0) (by decide) (by decide) (by decide)
  refine fin_bad g (by rw [e, ev]) hn (next_full (per_wd hx).2 ?_) ?_
  · show ((stOf (itemsOf (v75 ns P cell 0 0 0))).2.1.length : Int) = 24
    rw [st_v.1]
    show (P.length : Int) = 24
    omega
  · rw [iv_len, rows_len (by decide) (by decide) (by decide)]; omega
theorem cut_take {α : Type} {l : List α} {n : Int} (h : 0 ≤ n ∧ n ≤ l.length) : cut l none (some n) = l.take n.toNat := by
  unfold cut
  show (l.drop (HT.sIx l.length 0 none)).take _ = _
  have e1 : HT.sIx l.length 0 none = 0 := rfl
  have e2 : HT.sIx l.length l.length (some n) = n.toNat := by unfold HT.sIx; simp only []; split <;> omega
  rw [e1, e2]
  rfl
theorem two_head {L : List Str} (h : 2 ≤ L.length) : ∃ a b L', L = a :: b :: L' := by
  match L, h with
  | a :: b :: L', _ => exact ⟨a, b, L', rfl⟩
theorem p75_of {L : List Str} {x y : Str} {n : Nat} (hL : 24 ≤ L.length) (hnd : L.Nodup) (hnm : ∀ t ∈ L, m_P_is_name (Va.str t) = true) (hn : 2 ≤ n ∧ n ≤ 24) : P75 (L ++ [x, y]) (L.take n) := by
  obtain ⟨a, b, L', rfl⟩ := two_head (L := L) (by omega)
  obtain ⟨k, rfl⟩ : ∃ k, n = k + 2 := ⟨n - 2, by omega⟩
  have e0 : nth (a :: b :: L' ++ [x, y]) 0 = a := nthN (i := 0) rfl
  have e1 : nth (a :: b :: L' ++ [x, y]) 1 = b := nthN (i := 1) rfl
  refine ⟨⟨hnd.sublist (List.take_sublist _ _), fun t ht => hnm t (List.mem_of_mem_take ht)⟩, ?_, ?_, ?_, ?_⟩
  · rw [List.length_take]; omega
  · rw [e0]; exact List.mem_cons_self
  · rw [e1]; exact List.mem_cons_of_mem _ List.mem_cons_self
  · rw [e0, e1]
    intro z
    exact (List.nodup_cons.mp hnd).1 (by rw [z]; exact List.mem_cons_self)
def step75 (ns : List Str) (mn : List Int) (cell : Int) (s : List Str × Option Int) (x : Int) : List Str × Option Int :=
  lt (if ((s.2.isNone) && (decide ((nth ([(24 : Int), (24 : Int), (120 : Int), (60 : Int)]) x) < (nth mn x)))) then
      lt (some ((s.1.length : Int) + (nth ([(24 : Int), (24 : Int), (120 : Int), (60 : Int)]) x))) fun due => due
    else s.2) fun d => ((s.1 ++ (m_L_kind_rows ns x (nth mn x) cell)), d)
theorem step75_is {ns : List Str} {mn : List Int} {cell : Int} {r : List Str} {d : Option Int} {x l : Int} (hl : nth ([(24 : Int), (24 : Int), (120 : Int), (60 : Int)]) x = l) : step75 ns mn cell (r, d) x = (r ++ (upto (nth mn x)).map (krow ns x cell), if (d.isNone && decide (l < nth mn x)) = true then some ((r.length : Int) + l) else d) := by
  subst hl
  unfold step75
  simp only [lt, kr_is]
theorem law_true (script : List Int) (hl : script.length ≤ 63) : m_L_law script = true := by
  unfold m_L_law
  refine rd_lt fun c hc => rd_lt fun L hL => rd_lt fun ns hns => rd_lt fun mn hmn => rd_lt fun d0 hd0 => rd_lt fun s12 hs12 => rd_lt fun s14 hs14 => rd_lt fun s33 hs33 => rd_lt fun f _ => ?_
  show fin75 s33.1 s33.2 mn = true
  have hL24 : L.length = 24 := by rw [hL]; exact names_len _
  have hLg := names_good (nth c 5)
  rw [← hL] at hLg
  have hm := many75 hmn
  have hx1 : m_P_is_name (Va.str (("ccccccccccc" : Str) ++ ("w" : Str))) = true := by decide +kernel
  have hx2 : m_P_is_name (Va.str (("ccccccccccc" : Str) ++ ("x" : Str))) = true := by decide +kernel
  have hnsl : ns.length = 26 := by rw [hns, List.length_append, hL24]; rfl
  have hlo := hm.lo
  have hi1 := hm.hi 1 (by decide)
  have hi2 := hm.hi 2 (by decide)
  have hi3 := hm.hi 3 (by decide)
  have h14 : s14 = step75 ns mn (nth c 6) (step75 ns mn (nth c 6) (step75 ns mn (nth c 6) (((cut ns none (some (nth mn 0))).map fun e => (("person " : Str) ++ e)), s12) 1) 2) 3 := hs14
  rw [cut_take ⟨by omega, by omega⟩] at h14
  rw [step75_is (x := 1) (l := 24) rfl, step75_is (x := 2) (l := 120) rfl, step75_is (x := 3) (l := 60) rfl] at h14
  have h33 : s33 = if ((decide (((nth c 6) % (4 : Int)) = (1 : Int))) && (decide ((nth mn 0) < (s14.1.length : Int)))) = true then (if ((s14.2.isNone) || (decide ((nth mn 0) + (((nth c 6) / (4 : Int)) % ((s14.1.length : Int) - (nth mn 0))) < (s14.2.getD default)))) = true then (s14.1.set ((nth mn 0) + (((nth c 6) / (4 : Int)) % ((s14.1.length : Int) - (nth mn 0)))).toNat (bad75r ns), some ((nth mn 0) + (((nth c 6) / (4 : Int)) % ((s14.1.length : Int) - (nth mn 0))))) else (s14.1.set ((nth mn 0) + (((nth c 6) / (4 : Int)) % ((s14.1.length : Int) - (nth mn 0)))).toNat (bad75r ns), s14.2)) else (s14.1, s14.2) := hs33
  by_cases h24 : nth mn 0 ≤ 24
  · -- few
    have e12 : s12 = none := by rw [hs12, decide_eq_false (by omega), hd0]; rfl
    obtain ⟨n, hn⟩ : ∃ n : Nat, (n : Int) = nth mn 0 := ⟨(nth mn 0).toNat, by omega⟩
    have hP := p75_of (L := L) (x := ("ccccccccccc" : Str) ++ ("w" : Str)) (y := ("ccccccccccc" : Str) ++ ("x" : Str)) (n := n) (by omega) hLg.1 hLg.2 (by omega)
    rw [← hns] at hP
    have eP : ns.take (nth mn 0).toNat = L.take n := by
      rw [hns, show (nth mn 0).toNat = n by omega, List.take_append_of_le_length (by omega)]
    have hPl : (L.take n).length = n := by rw [List.length_take]; omega
    rw [eP, e12] at h14
    have h141 : s14.1 = rows75 ns (L.take n) (nth c 6) (nth mn 1) (nth mn 2) (nth mn 3) := by
      rw [h14]
      simp only [rows75, List.append_assoc]
    have h142 : s14.2 = due75 (L.take n).length (nth mn 0) (nth mn 1) (nth mn 2) (nth mn 3) := by
      rw [h14]
      have l1 : ((((L.take n).map fun e => ("person " : Str) ++ e).length : Nat) : Int) = (L.take n).length := by rw [List.length_map]
      have l2 : (((((L.take n).map fun e => ("person " : Str) ++ e) ++ (upto (nth mn 1)).map (krow ns 1 (nth c 6))).length : Nat) : Int) = (L.take n).length + nth mn 1 := by rw [List.length_append, List.length_map, List.length_map, upto_len]; omega
      have l3 : ((((((L.take n).map fun e => ("person " : Str) ++ e) ++ (upto (nth mn 1)).map (krow ns 1 (nth c 6))) ++ (upto (nth mn 2)).map (krow ns 2 (nth c 6))).length : Nat) : Int) = (L.take n).length + nth mn 1 + nth mn 2 := by rw [List.length_append, List.length_append, List.length_map, List.length_map, List.length_map, upto_len, upto_len]; omega
      show (if (Option.isNone (if (Option.isNone (if (Option.isNone (none : Option Int) && decide ((24 : Int) < nth mn 1)) = true then some _ else none) && decide ((120 : Int) < nth mn 2)) = true then some _ else _) && decide ((60 : Int) < nth mn 3)) = true then some _ else _) = _
      rw [l1, l2, l3]
      unfold due75
      rw [if_neg (show ¬ (24 : Int) < nth mn 0 by omega)]
      by_cases c1 : (24 : Int) < nth mn 1
      · rw [decide_eq_true c1, if_pos c1]; rfl
      · rw [decide_eq_false c1, if_neg c1]
        by_cases c2 : (120 : Int) < nth mn 2
        · rw [decide_eq_true c2, if_pos c2]; rfl
        · rw [decide_eq_false c2, if_neg c2]
          by_cases c3 : (60 : Int) < nth mn 3
          · rw [decide_eq_true c3, if_pos c3]; rfl
          · rw [decide_eq_false c3, if_neg c3]; rfl
    rw [h141, h142] at h33
    have hrl := rows_len (ns := ns) (P := L.take n) (cell := nth c 6) hi1.1 hi2.1 hi3.1
    have key := few75 (cell := nth c 6) hP hm (by rw [hPl]; omega) ((decide (((nth c 6) % (4 : Int)) = (1 : Int))) && (decide ((nth mn 0) < ((rows75 ns (L.take n) (nth c 6) (nth mn 1) (nth mn 2) (nth mn 3)).length : Int)))) ((nth mn 0) + (((nth c 6) / (4 : Int)) % (((rows75 ns (L.take n) (nth c 6) (nth mn 1) (nth mn 2) (nth mn 3)).length : Int) - (nth mn 0)))) (fun hb => by
      have := at75 hb (by omega)
      rw [hPl]
      have h1 := Int.emod_nonneg (nth c 6 / 4) (b := ((rows75 ns (L.take n) (nth c 6) (nth mn 1) (nth mn 2) (nth mn 3)).length : Int) - nth mn 0) (by simp only [Bool.and_eq_true, decide_eq_true_eq] at hb; omega)
      exact ⟨by omega, this.2⟩)
    rw [h33]
    split
    · next hb =>
      rw [if_pos hb, if_pos hb] at key
      split
      · next hq => rw [if_pos hq] at key; exact key
      · next hq => rw [if_neg hq] at key; exact key
    · next hb =>
      rw [if_neg hb, if_neg hb] at key
      exact key
  · -- more than 24
    have e12 : s12 = some 24 := by rw [hs12, decide_eq_true (by omega)]; rfl
    have hP := p75_of (L := L) (x := ("ccccccccccc" : Str) ++ ("w" : Str)) (y := ("ccccccccccc" : Str) ++ ("x" : Str)) (n := 24) (by omega) hLg.1 hLg.2 (by omega)
    rw [← hns] at hP
    have hLt : L.take 24 = L := List.take_of_length_le (by omega)
    rw [hLt] at hP
    have h142 : s14.2 = some 24 := by rw [h14, e12]; rfl
    obtain ⟨rest0, er, hr0⟩ : ∃ rest0, s14.1 = (L.map fun e => ("person " : Str) ++ e) ++ (("person " : Str) ++ (("ccccccccccc" : Str) ++ ("w" : Str))) :: rest0 ∧ ∀ y ∈ rest0, 10 ∉ TL.tl y := by
      have e26 : (nth mn 0).toNat = 25 ∨ (nth mn 0).toNat = 26 := by omega
      have kr : ∀ (b n : Int) (y : Str), (b = 1 ∨ b = 2 ∨ b = 3) → y ∈ (upto n).map (krow ns b (nth c 6)) → 10 ∉ TL.tl y := fun b n y hb hy => by
        obtain ⟨k, _, rfl⟩ := List.mem_map.mp hy
        exact (krow_wd hP hb).1
      have et : ns.take (nth mn 0).toNat = L ++ [("ccccccccccc" : Str) ++ ("w" : Str), ("ccccccccccc" : Str) ++ ("x" : Str)].take ((nth mn 0).toNat - 24) := by
        rw [hns, List.take_append, List.take_of_length_le (show L.length ≤ (nth mn 0).toNat by omega), hL24]
      have e1 : s14.1 = (((ns.take (nth mn 0).toNat).map fun e => (("person " : Str) ++ e)) ++ (upto (nth mn 1)).map (krow ns 1 (nth c 6)) ++ (upto (nth mn 2)).map (krow ns 2 (nth c 6))) ++ (upto (nth mn 3)).map (krow ns 3 (nth c 6)) := by rw [h14]
      rcases e26 with e | e
      · rw [et, e] at e1
        refine ⟨(upto (nth mn 1)).map (krow ns 1 (nth c 6)) ++ ((upto (nth mn 2)).map (krow ns 2 (nth c 6)) ++ (upto (nth mn 3)).map (krow ns 3 (nth c 6))), ?_, fun y hy => ?_⟩
        · rw [e1]
          simp only [List.map_append, List.append_assoc]
          rfl
        · rcases List.mem_append.mp hy with hy | hy
          · exact kr 1 _ y (.inl rfl) hy
          · rcases List.mem_append.mp hy with hy | hy
            · exact kr 2 _ y (.inr (.inl rfl)) hy
            · exact kr 3 _ y (.inr (.inr rfl)) hy
      · rw [et, e] at e1
        refine ⟨(("person " : Str) ++ (("ccccccccccc" : Str) ++ ("x" : Str))) :: ((upto (nth mn 1)).map (krow ns 1 (nth c 6)) ++ ((upto (nth mn 2)).map (krow ns 2 (nth c 6)) ++ (upto (nth mn 3)).map (krow ns 3 (nth c 6)))), ?_, fun y hy => ?_⟩
        · rw [e1]
          simp only [List.map_append, List.append_assoc]
          rfl
        · rcases List.mem_cons.mp hy with rfl | hy
          · exact (per_wd hx2).1
          · rcases List.mem_append.mp hy with hy | hy
            · exact kr 1 _ y (.inl rfl) hy
            · rcases List.mem_append.mp hy with hy | hy
              · exact kr 2 _ y (.inr (.inl rfl)) hy
              · exact kr 3 _ y (.inr (.inr rfl)) hy
    have hnl : ∀ y ∈ s14.1, 10 ∉ TL.tl y := fun y hy => by
      rw [er] at hy
      rcases List.mem_append.mp hy with hy | hy
      · obtain ⟨n, hn, rfl⟩ := List.mem_map.mp hy
        exact (per_wd (hLg.2 n hn)).1
      · rcases List.mem_cons.mp hy with rfl | hy
        · exact (per_wd hx1).1
        · exact hr0 y hy
    have hb0 := (bad_no (ns := ns) (hP.ok.ok _ hP.m0) rd0).2
    rw [h33]
    split
    · next hb =>
      have ha := at75 hb (by omega)
      have h1 := Int.emod_nonneg (nth c 6 / 4) (b := (s14.1.length : Int) - nth mn 0) (by simp only [Bool.and_eq_true, decide_eq_true_eq] at hb; omega)
      rw [if_neg (by rw [h142]; show ¬ (false || decide (_ < (24 : Int))) = true; rw [decide_eq_false (by omega)]; decide), h142]
      show fin75 (s14.1.set _ (bad75r ns)) (some 24) mn = true
      refine lots75 (ns := ns) (cell := 0) (rest := rest0.set ((nth mn 0 + nth c 6 / 4 % ((s14.1.length : Int) - nth mn 0)).toNat - (L.map fun e => ("person " : Str) ++ e).length - 1) (bad75r ns)) (R2 := []) hP hL24 hx1 ?_ fun y hy => ?_
      · generalize hg : (nth mn 0 + nth c 6 / 4 % ((s14.1.length : Int) - nth mn 0)).toNat = i
        rw [er, set_late (by rw [List.length_map]; omega)]
      · rcases List.mem_or_eq_of_mem_set hy with hy | rfl
        · exact hnl y hy
        · exact hb0
    · rw [h142]
      exact lots75 (ns := ns) (cell := 0) (R2 := []) hP hL24 hx1 er hnl
end Kn
namespace Kn
open PySem PySem.Spec L2
theorem hd_all {P : Program} {w : World} {K : PySem.W.Frag} {mg : Str → Option Value} {base h : Heap} (X : K.In h) (Gm : h.Ns mainGlobals mg) (c : SaysM hdFa hdFn hdEx K) : All ⟨P, w, K, mg, base⟩ where
  d_P_hour_in := def_of X Gm c.d (i := 0) (j := 0) rfl rfl
  d_P_saying_in := def_of X Gm c.d (i := 1) (j := 1) rfl rfl
  d_P_talk_in := def_of X Gm c.d (i := 2) (j := 2) rfl rfl
  d_P_is_whole := def_of X Gm c.d (i := 3) (j := 3) rfl rfl
  d_P_is_hour := def_of X Gm c.d (i := 4) (j := 4) rfl rfl
  d_P_are_two := def_of X Gm c.d (i := 5) (j := 5) rfl rfl
  d_P_is_saying := def_of X Gm c.d (i := 6) (j := 6) rfl rfl
  d_P_is_name := def_of X Gm c.d (i := 7) (j := 7) rfl rfl
  d_P_is_tuple_of := def_of X Gm c.d (i := 8) (j := 8) rfl rfl
  d_P_is_tale := def_of X Gm c.d (i := 9) (j := 9) rfl rfl
  d_P_is_sight := def_of X Gm c.d (i := 10) (j := 10) rfl rfl
  d_P_is_talk := def_of X Gm c.d (i := 11) (j := 11) rfl rfl
  d_P_told_by := def_of X Gm c.d (i := 12) (j := 12) rfl rfl
  d_L_names := def_of X Gm c.d (i := 13) (j := 13) rfl rfl
  d_L_many := def_of X Gm c.d (i := 14) (j := 14) rfl rfl
  d_P_are_persons := def_of X Gm c.d (i := 15) (j := 15) rfl rfl
  d_P_are_all := def_of X Gm c.d (i := 16) (j := 16) rfl rfl
  d_P_read_book := def_of X Gm c.d (i := 17) (j := 17) rfl rfl
  d_L_kind_rows := def_of X Gm c.d (i := 18) (j := 18) rfl rfl
  d_L_law := def_of X Gm c.d (i := 19) (j := 19) rfl rfl
  d_P_Book_persons := defM_of X Gm c.d (i := 20) (j := 20) (k := 21) (l := 22) rfl rfl rfl rfl
  d_P_Book_sights := defM_of X Gm c.d (i := 21) (j := 20) (k := 21) (l := 23) rfl rfl rfl rfl
  d_P_Book_talks := defM_of X Gm c.d (i := 22) (j := 20) (k := 21) (l := 24) rfl rfl rfl rfl
  d_P_Book_sayings := defM_of X Gm c.d (i := 23) (j := 20) (k := 21) (l := 25) rfl rfl rfl rfl
  i_Book := defI_of X Gm c.d (i := 24) (j := 20) (k := 21) (l := 26) rfl rfl rfl rfl
  a_Book_claims := noat_of X Gm c.d (j := 20) (k := 27) rfl rfl
  a_Book_crew := noat_of X Gm c.d (j := 20) (k := 28) rfl rfl
  a_Book_meetings := noat_of X Gm c.d (j := 20) (k := 29) rfl rfl
  a_Book_views := noat_of X Gm c.d (j := 20) (k := 30) rfl rfl
  dx_NoRow := defX_of c.d (i := 25) rfl (He.glo_ok X Gm (c.d.fact 32 (f := .glo "NoRow") rfl)) (He.glo_ok X Gm (c.d.fact 31 (f := .glo "KnewError") rfl)) (by have z := c.m; unfold hdEx at z; simp only [Bool.and_eq_true] at z; exact z.1.2)
  xf_NoRow_row := xfA_of (He.glo_ok X Gm (c.d.fact 32 (f := .glo "NoRow") rfl)) (by have z := c.m; unfold hdEx at z; simp only [Bool.and_eq_true] at z; exact z.2)
  xc_NoRow_NoRow := caught_of (He.glo_ok X Gm (c.d.fact 32 (f := .glo "NoRow") rfl)) (He.glo_ok X Gm (c.d.fact 32 (f := .glo "NoRow") rfl)) (c.d.fact 33 (f := .exm "NoRow" "NoRow" true) rfl)
  b_bool := He.free_ok X Gm (c.d.fact 34 (f := .free "bool") rfl)
  b_enumerate := He.free_ok X Gm (c.d.fact 35 (f := .free "enumerate") rfl)
  b_int := He.free_ok X Gm (c.d.fact 36 (f := .free "int") rfl)
  b_isinstance := He.free_ok X Gm (c.d.fact 37 (f := .free "isinstance") rfl)
  b_len := He.free_ok X Gm (c.d.fact 38 (f := .free "len") rfl)
  b_list := He.free_ok X Gm (c.d.fact 39 (f := .free "list") rfl)
  b_range := He.free_ok X Gm (c.d.fact 40 (f := .free "range") rfl)
  b_set := He.free_ok X Gm (c.d.fact 41 (f := .free "set") rfl)
  b_str := He.free_ok X Gm (c.d.fact 42 (f := .free "str") rfl)
  b_tuple := He.free_ok X Gm (c.d.fact 43 (f := .free "tuple") rfl)
  c_FIGURES := He.str_ok X Gm (c.d.fact 44 (f := .str "FIGURES" K_FIGURES) rfl)
  c_KEPT_WORDS := ⟨_, He.glo_ok X Gm (c.d.fact 45 (f := .glo "KEPT_WORDS") rfl), tab_str (l := K_KEPT_WORDS) (by have z := c.m; unfold hdEx at z; simp only [Bool.and_eq_true] at z; exact z.1.1.1.1.1)⟩
  c_KINDS := ⟨_, He.glo_ok X Gm (c.d.fact 46 (f := .glo "KINDS") rfl), tab_str (l := K_KINDS) (by have z := c.m; unfold hdEx at z; simp only [Bool.and_eq_true] at z; exact z.1.1.1.1.2)⟩
  ci_KINDS := tupI_of (He.glo_ok X Gm (c.d.fact 46 (f := .glo "KINDS") rfl)) (by have z := c.m; unfold hdEx at z; simp only [Bool.and_eq_true] at z; exact z.1.1.1.1.2) (by have z := c.m; unfold hdEx at z; simp only [Bool.and_eq_true] at z; exact z.1.1.2)
  c_LAST_HOUR := He.int_ok X Gm (c.d.fact 47 (f := .int "LAST_HOUR" 1000000000000000000) rfl)
  c_LETTERS := He.str_ok X Gm (c.d.fact 48 (f := .str "LETTERS" K_LETTERS) rfl)
  c_LONGEST := He.int_ok X Gm (c.d.fact 49 (f := .int "LONGEST" 12) rfl)
  c_MOST := ⟨_, He.glo_ok X Gm (c.d.fact 50 (f := .glo "MOST") rfl), tab_int (l := K_MOST) (by have z := c.m; unfold hdEx at z; simp only [Bool.and_eq_true] at z; exact z.1.1.1.2)⟩
  c_MOST_FIGURES := He.int_ok X Gm (c.d.fact 51 (f := .int "MOST_FIGURES" 19) rfl)
  c_MOST_PERSONS := He.int_ok X Gm (c.d.fact 52 (f := .int "MOST_PERSONS" 24) rfl)
  c_MOST_SAYINGS := He.int_ok X Gm (c.d.fact 53 (f := .int "MOST_SAYINGS" 60) rfl)
  c_MOST_SIGHTS := He.int_ok X Gm (c.d.fact 54 (f := .int "MOST_SIGHTS" 24) rfl)
  c_MOST_TALKS := He.int_ok X Gm (c.d.fact 55 (f := .int "MOST_TALKS" 120) rfl)
  c_MOST_WORDS := He.int_ok X Gm (c.d.fact 56 (f := .int "MOST_WORDS" 6) rfl)
theorem hd_facts {P : Program} {w : World} {K : PySem.W.Frag} {h : Heap} {mg : Str → Option Value} {f : Addr} (X : K.In h) (Gm : h.Ns mainGlobals mg) (hfa : mg ("law" : Str) = some (.ref f)) (c : SaysM hdFa hdFn hdEx K) :
    ∃ fd : FuncData, (∀ (s : Shared) (v : Value), BindsTo s fd ⟨[v], []⟩ [("_law_script", v)]) ∧ ∀ base : Heap, K.In base → base.Ns mainGlobals mg → FnOk P w K mg base (CX P w) 9 f fd ["_law_script"] (spD (sp_L_law ⟨P, w, K, mg, h⟩)) := by
  obtain ⟨fd, F⟩ := c.d.def_ 19 (d := ⟨("law", none), "law", "law", defArgs (top 42), defBody (top 42), defScope (top 42), [], []⟩) rfl
  have e := hfa.symm.trans (He.glo_ok X Gm (c.d.fact 19 (f := .glo "law") rfl))
  cases e
  have b := FunD.bindsA (ps := ["_law_script"]) F fun _ _ _ _ _ _ us hl => match us, hl with | [_], _ => rfl
  refine ⟨fd, fun s v => b s [v] rfl, fun base _ _ => ?_⟩
  refine fn_ok (G := ⟨P, w, K, mg, base⟩) (S := sp_L_law ⟨P, w, K, mg, h⟩) (N := N_L_law) (ps := ["_law_script"]) F (scope_of rfl rfl rfl (by decide +kernel)) (fun ds O rk q => ?_) (fun ds O rk q => ?_)
  · obtain ⟨ns, _, rfl, _⟩ := q; rfl
  · obtain ⟨ns, hp, rfl, rfl⟩ := q
    exact ⟨_, _, _, _, b_L_law (hd_all X Gm c) O ns hp, rfl⟩
end Kn
open PySem PySem.W PySem.Calls PyProof.Rows
theorem PySem.Challenge.cw_knewby_k75_whole_bounds_holds : PySem.Challenge.rw_knewby_k75_whole_bounds.Holds := by
  w_on; o_law
  refine HandSHeadRun.head_any (r := OpenLaw.row PySem.Challenge.rw_knewby_k75_whole_bounds) (q := view (OpenLaw.row PySem.Challenge.rw_knewby_k75_whole_bounds).prog [42]) (H := Kn.hdHk) (ob := Kn.hdOb) (M := 8000) (loose := Kn.hdLoose) (d := HandSHeadRun.topDef (OpenLaw.row PySem.Challenge.rw_knewby_k75_whole_bounds).prog 42) (kwd := []) Kn.hdOb_eq
    (by kernel_rfl) (fun s => by kernel_rfl) Kn.hd_run (by kernel_rfl) (by kernel_rfl) (by kernel_rfl) (by rfl) (by first | assumption | decide +kernel) (by decide +kernel) ⟨rfl, rfl, rfl, rfl, rfl, by decide +kernel⟩ ?hw ?hc
  case hw => w_witness2
  case hc =>
    refine Kn.walk_kn (l := PySem.Challenge.rw_knewby_k75_whole_bounds) (n := 63) (k := 9) (x := "_law_script") rfl (by decide) (by kernel_rfl) ⟨rfl, by decide, by decide⟩ ?F
    intro w mg fa h Y Gm hmg0
    obtain ⟨K, KX, c⟩ := Y
    have hmg : mg ("law" : PySem.Str) = some (.ref fa) := by
      have e : (HandSHeadRun.topDef (OpenLaw.row PySem.Challenge.rw_knewby_k75_whole_bounds).prog 42).name = ("law" : PySem.Str) := by kernel_rfl
      rw [← e]
      exact hmg0
    obtain ⟨fd, hb, hF⟩ := Kn.hd_facts (P := (PySem.Challenge.rw_knewby_k75_whole_bounds).prog) (w := w) KX Gm hmg c
    exact ⟨K, fd, _, KX, hb, fun ns hl => ⟨ns, ⟨hl, Kn.nt_nil⟩, rfl, by rw [Kn.law_true ns hl]⟩, hF⟩
