import PyProof.Rows.All
import Wide.All
import OpenK.AllK
import Wide.FinOn
import HandS.ForMost
import HandS.Exc
import HandS.WordsExc
import HandS.Defaults
import HandS.IsInst
import HandS.Wide
import HandS.Deep
import KE.KStateDown
import HandS.Ends
import HandS.More
import HandS.Head0
import HandS.Head1
import HandS.Head2
import HandS.HeadEnd
import HandS.HeadHook1
import HandS.HeadHook2
import HandS.Codes
import HandS.Dict
import HandS.List
import HandS.Zip
import HandS.Strs
import HandS.Iter
import HandS.Conv
import HandS.SetKeys
import HandS.TupAny
import KE.SortData
import HandS.Text
import HandS.Style
import PyProof.FitsInt
import PyProof.StrBlock2
import HandS.TupLe
import HandS.SortKw
import HandS.ExcOwn
import HandS.ExcIs
import KE.KExcIs
import HandS.Rev
import KE.KDictList
import KE.KeyNested
import KE.KDictWalk
import KE.KDictKeyed
import HandS.TupLen
import HandS.SetFor
import KE.SortCalls
import KE.DataCmp
import HandS.Set
import HandS.ExcInit
import HandS.ExcField
import OpenK.KCls
import HandS.TupMul
import KE.KIntText
import PySem.Challenge.RW_knewby_k02_books_told
set_option Elab.async false
set_option linter.all false
set_option maxRecDepth 100000
set_option maxHeartbeats 4000000
namespace Kn
open PySem PySem.Spec PyProof.Rows L2
def Gw (H H' : Hp) : Prop := ∀ a o, H a = some o → H' a = some o
theorem Gw.refl (H : Hp) : Gw H H := fun _ _ h => h
theorem Gw.trans {H H1 H2 : Hp} (a : Gw H H1) (b : Gw H1 H2) : Gw H H2 := fun x o h => b x o (a x o h)
theorem Gw.new {H : Hp} {p : Addr} {o : HO} (h : H p = none) : Gw H (upd H p o) := fun a u e => by
  rw [upd_ne (ne_of_none e h)]
  exact e
theorem Gw.free {H H' : Hp} (e : Gw H H') {p : Addr} (h : H' p = none) : H p = none := by
  cases q : H p with
  | none => rfl
  | some o => rw [e p o q] at h; cases h
theorem Gw.upd {H H' : Hp} (e : Gw H H') {p : Addr} {o : HO} (h : H' p = none) : Gw (upd H p o) (upd H' p o) := fun a u q => by
  by_cases ha : a = p
  · subst ha; rw [upd_same] at q ⊢; exact q
  · rw [upd_ne ha] at q ⊢; exact e a u q
theorem gw_rd {H H' : Hp} {a : Addr} {u : HO} (e : Gw H H') (h : Rd H a u) : Rd H' a u := by
  rcases h with h | ⟨o, h⟩
  · exact Or.inl (e a _ h)
  · exact Or.inr ⟨o, e a _ h⟩
theorem gw_l {K : PySem.W.Frag} {H H' : Hp} {a : Addr} {xs : List V} (e : Gw H H') (h : SqL K H a xs) : SqL K H' a xs := by
  rcases h with h | h
  · exact Or.inl (gw_rd e h)
  · exact Or.inr h
theorem gw_t {K : PySem.W.Frag} {H H' : Hp} {a : Addr} {xs : List V} (e : Gw H H') (h : SqT K H a xs) : SqT K H' a xs := by
  rcases h with h | h
  · exact Or.inl (gw_rd e h)
  · exact Or.inr h
structure D where
  ok : Hp → V → Prop
  mono : ∀ {F F' : Hp} {v : V}, Gw F F' → ok F v → ok F' v
def dV (v : V) : D := ⟨fun _ u => u = v, fun _ h => h⟩
abbrev dN : D := dV .non
abbrev dI (i : Int) : D := dV (.int i)
abbrev dB (b : Bool) : D := dV (.bl b)
def okS (s : Str) : Prop := PyData.strOk s = true ∧ s.length ≤ sizeLine
def okSb (s : Str) : Bool := PyData.strOk s && decide (s.length ≤ 16777216)
theorem okS_of {s : Str} (h : okSb s = true) : okS s := by
  unfold okSb at h
  simp only [Bool.and_eq_true, decide_eq_true_eq] at h
  exact ⟨h.1, by rw [sizeLine_eq]; exact h.2⟩
def dS (s : Str) : D := ⟨fun _ v => v = .str s ∧ okS s, fun _ h => h⟩
theorem strOk_iff {s : Str} : PyData.strOk s = true ↔ ∀ c ∈ s.cps.toList, c < 0x110000 := by
  unfold PyData.strOk
  rw [Array.all_eq_true']
  constructor
  · intro h c hc
    exact of_decide_eq_true (h c (Array.mem_toList_iff.mp hc))
  · intro h c hc
    exact decide_eq_true (h c (Array.mem_toList_iff.mpr hc))
theorem okS_app {i j : Str} (hi : okS i) (hj : okS j) (hl : i.length + j.length ≤ sizeLine) : okS (i ++ j) := by
  have e : (i ++ j).cps.toList = i.cps.toList ++ j.cps.toList := by
    show (i.cps ++ j.cps).toList = _
    exact Array.toList_append
  refine ⟨strOk_iff.mpr fun c hc => ?_, ?_⟩
  · rw [e] at hc
    rcases List.mem_append.mp hc with h | h
    · exact strOk_iff.mp hi.1 c h
    · exact strOk_iff.mp hj.1 c h
  · show (i.cps ++ j.cps).size ≤ _
    rw [Array.size_append]
    exact hl
theorem okS_sign {z : Str} {c : Nat} (hz : okS z) (hc : c ∈ z.cps.toList) : okS ⟨#[c]⟩ := by
  refine ⟨strOk_iff.mpr fun d hd => ?_, ?_⟩
  · have e : d = c := by simpa using hd
    rw [e]
    exact strOk_iff.mp hz.1 c hc
  · rw [sizeLine_eq]
    exact Nat.le_of_ble_eq_true rfl
abbrev dP (a : Addr) : D := dV (.ref a)
def AllD (F : Hp) : List D → List V → Prop
  | [], [] => True
  | d :: ds, v :: vs => d.ok F v ∧ AllD F ds vs
  | _, _ => False
theorem AllD.mono {F F' : Hp} (e : Gw F F') : ∀ {ds : List D} {vs : List V}, AllD F ds vs → AllD F' ds vs
  | [], [], _ => trivial
  | _ :: _, _ :: _, h => ⟨D.mono _ e h.1, AllD.mono e h.2⟩
  | [], _ :: _, h => h.elim
  | _ :: _, [], h => h.elim
theorem AllD.length {F : Hp} : ∀ {ds : List D} {vs : List V}, AllD F ds vs → vs.length = ds.length
  | [], [], _ => rfl
  | _ :: _, _ :: _, h => by simp [AllD.length h.2]
  | [], _ :: _, h => h.elim
  | _ :: _, [], h => h.elim
theorem AllD.get {F : Hp} : ∀ {ds : List D} {vs : List V} {i : Nat} {d : D}, AllD F ds vs → ds[i]? = some d → ∃ v, vs[i]? = some v ∧ d.ok F v
  | [], [], _, _, _, e => by simp at e
  | _ :: _, v :: _, 0, _, h, e => by simp at e; subst e; exact ⟨v, rfl, h.1⟩
  | _ :: _, _ :: _, i + 1, d, h, e => by
    obtain ⟨v, h1, h2⟩ := AllD.get (i := i) (d := d) h.2 (by simpa using e)
    exact ⟨v, by simpa using h1, h2⟩
  | [], _ :: _, _, _, h, _ => h.elim
  | _ :: _, [], _, _, h, _ => h.elim
theorem AllD.append {F : Hp} : ∀ {ds es : List D} {vs us : List V}, AllD F ds vs → AllD F es us → AllD F (ds ++ es) (vs ++ us)
  | [], _, [], _, _, q => q
  | _ :: _, _, _ :: _, _, h, q => ⟨h.1, AllD.append h.2 q⟩
  | [], _, _ :: _, _, h, _ => h.elim
  | _ :: _, _, [], _, h, _ => h.elim
theorem AllD.drop {F : Hp} : ∀ {ds : List D} {vs : List V} (n : Nat), AllD F ds vs → AllD F (ds.drop n) (vs.drop n)
  | _, _, 0, h => h
  | [], [], _ + 1, h => h
  | _ :: _, _ :: _, n + 1, h => AllD.drop n h.2
  | [], _ :: _, _, h => h.elim
  | _ :: _, [], _, h => h.elim
theorem AllD.take {F : Hp} : ∀ {ds : List D} {vs : List V} (n : Nat), AllD F ds vs → AllD F (ds.take n) (vs.take n)
  | _, _, 0, _ => trivial
  | [], [], _ + 1, h => h
  | _ :: _, _ :: _, n + 1, h => ⟨h.1, AllD.take n h.2⟩
  | [], _ :: _, _, h => h.elim
  | _ :: _, [], _, h => h.elim
theorem AllD.set {F : Hp} {d : D} {v : V} (q : d.ok F v) : ∀ {ds : List D} {vs : List V} (n : Nat), AllD F ds vs → AllD F (ds.set n d) (vs.set n v)
  | [], [], _, h => h
  | _ :: _, _ :: _, 0, h => ⟨q, h.2⟩
  | _ :: _, _ :: _, n + 1, h => ⟨h.1, AllD.set q n h.2⟩
  | [], _ :: _, _, h => h.elim
  | _ :: _, [], _, h => h.elim
theorem AllD.rev {F : Hp} : ∀ {ds : List D} {vs : List V}, AllD F ds vs → AllD F ds.reverse vs.reverse
  | [], [], h => h
  | _ :: _, _ :: _, h => by rw [List.reverse_cons, List.reverse_cons]; exact AllD.append (AllD.rev h.2) ⟨h.1, trivial⟩
  | [], _ :: _, h => h.elim
  | _ :: _, [], h => h.elim
theorem AllD.dV {F : Hp} : ∀ {xs vs : List V}, AllD F (xs.map dV) vs → vs = xs
  | [], [], _ => rfl
  | x :: xs, v :: vs, h => by
    have h1 : v = x := h.1
    rw [h1, AllD.dV (xs := xs) (vs := vs) h.2]
  | [], _ :: _, h => h.elim
  | _ :: _, [], h => h.elim
theorem AllD.dS {F : Hp} : ∀ {xs : List Str} {vs : List V}, AllD F (xs.map Kn.dS) vs → vs = xs.map V.str ∧ ∀ s ∈ xs, okS s
  | [], [], _ => ⟨rfl, fun _ h => nomatch h⟩
  | x :: xs, v :: vs, h => by
    have h1 : v = .str x ∧ okS x := h.1
    obtain ⟨h2, h3⟩ := AllD.dS (xs := xs) (vs := vs) h.2
    rw [h1.1, h2]
    refine ⟨rfl, fun s hs => ?_⟩
    rcases List.mem_cons.mp hs with rfl | hs
    · exact h1.2
    · exact h3 s hs
  | [], _ :: _, h => h.elim
  | _ :: _, [], h => h.elim
theorem allD_dS {F : Hp} : ∀ (xs : List Str), (∀ s ∈ xs, okS s) → AllD F (xs.map Kn.dS) (xs.map V.str)
  | [], _ => trivial
  | x :: xs, h => ⟨⟨rfl, h x List.mem_cons_self⟩, allD_dS xs fun s hs => h s (List.mem_cons_of_mem _ hs)⟩
theorem allD_dV {F : Hp} : ∀ (xs : List V), AllD F (xs.map dV) xs
  | [] => trivial
  | _ :: xs => ⟨rfl, allD_dV xs⟩
def dTup (K : PySem.W.Frag) (ds : List D) : D := ⟨fun F u => ∃ a vs, u = .ref a ∧ SqT K F a vs ∧ AllD F ds vs, fun e ⟨a, vs, h1, h2, h3⟩ => ⟨a, vs, h1, gw_t e h2, AllD.mono e h3⟩⟩
def LsA (K : PySem.W.Frag) (F : Hp) (a : Addr) (xs : List V) : Prop := Rd F a (.lst xs) ∨ ∃ (its : Array Value) (n : Nat), K.lookup a = some { cls := .type "list", data := .seq its n } ∧ its.size ≤ sizeLine ∧ Vals xs its.toList
theorem LsA.mono {K : PySem.W.Frag} {F F' : Hp} {a : Addr} {xs : List V} (e : Gw F F') (h : LsA K F a xs) : LsA K F' a xs := h.imp (gw_rd e) id
theorem LsA.sq {K : PySem.W.Frag} {F : Hp} {a : Addr} {xs : List V} (h : LsA K F a xs) : SqL K F a xs := by
  rcases h with h | ⟨its, n, h1, h2, h3⟩
  · exact .inl h
  · exact .inr ⟨_, its, n, h1, rfl, rfl, rfl, h2, h3⟩
theorem LsA.get {X : Cx} {pins : List (Addr × Obj)} {σ : L2.St} {H : Hp} {s : Shared} {a : Addr} {xs : List V} (I : Inv X pins σ H s) (h : LsA X.K H a xs) : ∃ (its : List Value) (n : Nat), Vals xs its ∧ s.heap.get? a = some { cls := .type "list", data := .seq its.toArray n } ∧ xs.length ≤ sizeLine := by
  rcases h with h | ⟨its, n, h1, h2, h3⟩
  · obtain ⟨z, its, n, r, e⟩ := h.ok I.hok
    exact ⟨its, n, r, e, z⟩
  · refine ⟨its.toList, n, h3, I.kIn a _ h1, ?_⟩
    have e := h3.length
    rw [e, Array.length_toList]
    exact h2
def dLst (K : PySem.W.Frag) (ds : List D) : D := ⟨fun F u => ∃ a vs, u = .ref a ∧ LsA K F a vs ∧ AllD F ds vs, fun e ⟨a, vs, h1, h2, h3⟩ => ⟨a, vs, h1, h2.mono e, AllD.mono e h3⟩⟩
def dO {α : Type} (f : α → D) : Option α → D
  | none => dN
  | some a => f a
structure OD where
  ok : Hp → HO → Prop
  mono : ∀ {F F' : Hp} {o : HO}, Gw F F' → ok F o → ok F' o
def oLst (ds : List D) : OD := ⟨fun F o => ∃ vs, o = .lst vs ∧ AllD F ds vs, fun e ⟨vs, h1, h2⟩ => ⟨vs, h1, AllD.mono e h2⟩⟩
abbrev Own := List (Addr × OD)
structure HoldO (F : Hp) (O : Own) (H : Hp) : Prop where
  ex : Gw F H
  nd : (O.map (·.1)).Nodup
  ow : ∀ q ∈ O, F q.1 = none ∧ ∃ o, H q.1 = some o ∧ q.2.ok F o
abbrev Fr := List (Option D)
def FrOk (F : Hp) (Γ : Fr) (σ : L2.St) : Prop := Γ.length = σ.length ∧ ∀ (i : Nat) (d : D), Γ[i]? = some (some d) → ∃ v, σ[i]? = some (some v) ∧ d.ok F v
structure Hold (F : Hp) (Γ : Fr) (O : Own) (σ : L2.St) (H : Hp) : Prop where
  fr : FrOk F Γ σ
  ho : HoldO F O H
theorem FrOk.mono {F F' : Hp} {Γ : Fr} {σ : L2.St} (e : Gw F F') (h : FrOk F Γ σ) : FrOk F' Γ σ := ⟨h.1, fun i d q => by
  obtain ⟨v, h1, h2⟩ := h.2 i d q
  exact ⟨v, h1, d.mono e h2⟩⟩
theorem FrOk.set {F : Hp} {Γ : Fr} {σ : L2.St} {d : D} {v : V} (i : Nat) (h : FrOk F Γ σ) (q : d.ok F v) : FrOk F (Γ.set i (some d)) (σ.set i (some v)) := by
  refine ⟨by rw [List.length_set, List.length_set]; exact h.1, fun j e z => ?_⟩
  by_cases hj : i = j
  · subst hj
    by_cases hi : i < Γ.length
    · rw [List.getElem?_set_self hi] at z
      cases z
      exact ⟨v, by rw [List.getElem?_set_self (by rw [← h.1]; exact hi)], q⟩
    · rw [List.getElem?_eq_none (by rw [List.length_set]; omega)] at z
      cases z
  · rw [List.getElem?_set_ne hj] at z ⊢
    exact h.2 j e z
theorem HoldO.laid {F : Hp} {O : Own} {H : Hp} {p : Addr} {o : HO} (h : HoldO F O H) (hp : H p = none) : HoldO (upd F p o) O (upd H p o) ∧ Gw F (upd F p o) := by
  have hf := h.ex.free hp
  have ef : Gw F (upd F p o) := Gw.new hf
  refine ⟨⟨h.ex.upd hp, h.nd, fun q hq => ?_⟩, ef⟩
  obtain ⟨h1, u, h2, h3⟩ := h.ow q hq
  have hne : q.1 ≠ p := ne_of_none h2 hp
  exact ⟨by rw [upd_ne hne]; exact h1, u, by rw [upd_ne hne]; exact h2, q.2.mono ef h3⟩
theorem HoldO.own {F : Hp} {O : Own} {H : Hp} {p : Addr} {o : HO} {od : OD} (h : HoldO F O H) (hp : H p = none) (ho : od.ok F o) : HoldO F ((p, od) :: O) (upd H p o) := by
  have hf := h.ex.free hp
  refine ⟨h.ex.trans (Gw.new hp), ?_, fun q hq => ?_⟩
  · rw [List.map_cons, List.nodup_cons]
    refine ⟨fun hm => ?_, h.nd⟩
    obtain ⟨q, hq, e⟩ := List.mem_map.mp hm
    obtain ⟨_, u, h2, _⟩ := h.ow q hq
    have e' : q.1 = p := e
    rw [e', hp] at h2
    cases h2
  · rcases List.mem_cons.mp hq with rfl | hq
    · exact ⟨hf, o, upd_same, ho⟩
    · obtain ⟨h1, u, h2, h3⟩ := h.ow q hq
      exact ⟨h1, u, by rw [upd_ne (ne_of_none h2 hp)]; exact h2, h3⟩
theorem HoldO.freeze {F : Hp} {O : Own} {H : Hp} {p : Addr} {od : OD} (h : HoldO F ((p, od) :: O) H) : ∃ o, H p = some o ∧ od.ok F o ∧ Gw F (upd F p o) ∧ HoldO (upd F p o) O H := by
  obtain ⟨hf, o, hp, ho⟩ := h.ow (p, od) List.mem_cons_self
  have hn := List.nodup_cons.mp h.nd
  refine ⟨o, hp, ho, Gw.new hf, ⟨fun a u q => ?_, hn.2, fun q hq => ?_⟩⟩
  · by_cases ha : a = p
    · subst ha; rw [upd_same] at q; rw [← q]; exact hp
    · rw [upd_ne ha] at q; exact h.ex a u q
  · obtain ⟨h1, u, h2, h3⟩ := h.ow q (List.mem_cons_of_mem _ hq)
    have hne : q.1 ≠ p := fun e => hn.1 (List.mem_map.mpr ⟨q, hq, e⟩)
    exact ⟨by rw [upd_ne hne]; exact h1, u, h2, q.2.mono (Gw.new hf) h3⟩
theorem HoldO.drop {F : Hp} {O : Own} {H : Hp} {c : Addr × OD} (h : HoldO F (c :: O) H) : HoldO F O H :=
  ⟨h.ex, (List.nodup_cons.mp h.nd).2, fun q hq => h.ow q (List.mem_cons_of_mem _ hq)⟩
theorem HoldO.at {F : Hp} {O : Own} {H : Hp} {p : Addr} {od : OD} (h : HoldO F O H) {k : Nat} (hk : O[k]? = some (p, od)) : F p = none ∧ ∃ o, H p = some o ∧ od.ok F o := h.ow (p, od) (List.mem_of_getElem? hk)
theorem HoldO.write {F : Hp} {O : Own} {H : Hp} {p : Addr} {od od' : OD} {o' : HO} (h : HoldO F O H) {k : Nat} (hk : O[k]? = some (p, od)) (ho : od'.ok F o') : HoldO F (O.set k (p, od')) (upd H p o') := by
  obtain ⟨hf, o, hp, _⟩ := h.at hk
  obtain ⟨hlt, hge⟩ := List.getElem?_eq_some_iff.mp hk
  have em : (O.set k (p, od')).map (·.1) = O.map (·.1) := by
    rw [List.map_set]
    refine List.ext_getElem? fun i => ?_
    by_cases hi : k = i
    · subst hi
      rw [List.getElem?_set_self (by rw [List.length_map]; exact hlt), List.getElem?_map, hk]
      rfl
    · rw [List.getElem?_set_ne hi]
  refine ⟨fun a u q => ?_, by rw [em]; exact h.nd, fun q hq => ?_⟩
  · rw [upd_ne (ne_of_none q hf)]; exact h.ex a u q
  · obtain ⟨i, hi, e⟩ := List.mem_iff_getElem.mp hq
    rw [List.length_set] at hi
    rw [List.getElem_set] at e
    by_cases hik : k = i
    · rw [if_pos hik] at e
      subst e
      exact ⟨hf, o', upd_same, ho⟩
    · rw [if_neg hik] at e
      subst e
      obtain ⟨h1, u, h2, h3⟩ := h.ow O[i] (List.getElem_mem hi)
      have hne : (O[i]).1 ≠ p := fun e => by
        have nd := h.nd
        have a1 : (O.map (·.1))[i]'(by rw [List.length_map]; exact hi) = p := by rw [List.getElem_map]; exact e
        have a2 : (O.map (·.1))[k]'(by rw [List.length_map]; exact hlt) = p := by rw [List.getElem_map, hge]
        exact hik ((List.getElem_inj nd).mp (a2.trans a1.symm))
      exact ⟨h1, u, by rw [upd_ne hne]; exact h2, h3⟩
theorem Hold.mono {F F' : Hp} {Γ : Fr} {O O' : Own} {σ : L2.St} {H H' : Hp} (h : Hold F Γ O σ H) (e : Gw F F') (k : HoldO F' O' H') : Hold F' Γ O' σ H' := ⟨h.fr.mono e, k⟩
theorem Hold.set {F : Hp} {Γ : Fr} {O : Own} {σ : L2.St} {H : Hp} {d : D} {v : V} (i : Nat) (h : Hold F Γ O σ H) (q : d.ok F v) : Hold F (Γ.set i (some d)) O (σ.set i (some v)) H := ⟨h.fr.set i q, h.ho⟩
end Kn
namespace Kn
open PySem PySem.Spec L2
structure Cfg where
  P : Program
  w : World
  K : PySem.W.Frag
  mg : Str → Option Value
  base : Heap
structure Sc where
  k : Nat
  N : List Str
  sc : Scope
  top : Bool := true
  calm : Bool := true
structure InC (G : Cfg) (C : Sc) (X : Cx) : Prop where
  p : X.prog = G.P
  w : X.w = G.w
  K : X.K = G.K
  mg : X.mg = G.mg
  base : X.base = G.base
  n : X.N = C.N
  sc : X.env.scope = C.sc
  calm : C.calm = true → X.calm = true
  un : X.A.units + 16 * C.k + 200 < cLine
  dp : X.A.depth + 3 * C.k + 5 < recursionLimit
  hdl : C.calm = true → X.A.handled = none
  st : C.top = true → X.stack = X.env :: X.outer ∧ X.env.frame = some X.env.locals
  po : PassesOwn (model X.prog X.w) X.A X.env X.xe
  fn : C.top = true → ∀ x, X.fn x = true
class Calm (C : Sc) : Prop where
  c : C.calm = true
theorem InC.room {G : Cfg} {C : Sc} [Calm C] {X : Cx} (c : InC G C X) : Room C.k X.A := ⟨c.hdl Calm.c, c.dp, c.un⟩
theorem InC.units {G : Cfg} {C : Sc} {X : Cx} (c : InC G C X) : X.A.units + 64 < cLine := by have := c.un; omega
theorem InC.cm {G : Cfg} {C : Sc} [Calm C] {X : Cx} (c : InC G C X) : X.calm = true := c.calm Calm.c
def WE (X : Cx) (e : Expr) : TE := fun σ H Q => ∀ (pins : List (Addr × Obj)) (s : Shared), Inv X pins σ H s → wpAny (model X.prog X.w) X.A (eval e X.env) (EP X pins σ Q) X.xe s
def WT (X : Cx) (e : Expr) : TT := fun σ H Q => ∀ (pins : List (Addr × Obj)) (s : Shared), Inv X pins σ H s → wpAny (model X.prog X.w) X.A (isTrue e X.env (eval e X.env)) (TP X pins σ Q) X.xe s
def WW (X : Cx) (e : Expr) : TT := fun σ H Q => ∀ (whole : Sem Value) (pins : List (Addr × Obj)) (s : Shared), Inv X pins σ H s → wpAny (model X.prog X.w) X.A (isTrue e X.env whole) (TP X pins σ Q) X.xe s
def WA (X : Cx) (es : List Expr) : TA := fun σ H Q => ∀ (pos : Pos) (pins : List (Addr × Obj)) (s : Shared), Inv X pins σ H s → wpAny (model X.prog X.w) X.A (spliced (backTo pos (starEach es X.env))) (AP X pins σ Q) X.xe s
theorem pe_can {X : Cx} {e : Expr} : PE X e (WE X e) := ⟨fun pins s _ _ _ I h => h pins s I⟩
theorem pt_can {X : Cx} {e : Expr} : PT X e (WT X e) := ⟨fun pins s _ _ _ I h => h pins s I⟩
theorem pw_can {X : Cx} {e : Expr} : PW X e (WW X e) := ⟨fun wh pins s _ _ _ I h => h wh pins s I⟩
theorem pa_can {X : Cx} {es : List Expr} : PA X es (WA X es) := ⟨fun pos pins s _ _ _ I h => h pos pins s I⟩
theorem we_of {X : Cx} {e : Expr} {t : TE} {σ : L2.St} {H : Hp} {Q : VK} (h : PE X e t) (q : t σ H Q) : WE X e σ H Q := fun pins s I => h.run pins s σ H Q I q
theorem wt_of {X : Cx} {e : Expr} {t : TT} {σ : L2.St} {H : Hp} {Q : Bool → Hp → Prop} (h : PT X e t) (q : t σ H Q) : WT X e σ H Q := fun pins s I => h.run pins s σ H Q I q
theorem ww_of {X : Cx} {e : Expr} {t : TT} {σ : L2.St} {H : Hp} {Q : Bool → Hp → Prop} (h : PW X e t) (q : t σ H Q) : WW X e σ H Q := fun wh pins s I => h.run wh pins s σ H Q I q
theorem wa_of {X : Cx} {es : List Expr} {t : TA} {σ : L2.St} {H : Hp} {Q : List V → Hp → Prop} (h : PA X es t) (q : t σ H Q) : WA X es σ H Q := fun pos pins s I => h.run pos pins s σ H Q I q
structure E (G : Cfg) (C : Sc) (e : Expr) (Γ : Fr) (O : Own) (d : D) : Prop where
  run : ∀ X, InC G C X → ∀ (F : Hp) (σ : L2.St) (H : Hp), Hold F Γ O σ H → ∀ Q : VK, (∀ F' H' v, Gw F F' → Hold F' Γ O σ H' → d.ok F' v → Q v H') → WE X e σ H Q
structure EN (G : Cfg) (C : Sc) (e : Expr) (Γ : Fr) (O : Own) (od : OD) : Prop where
  run : ∀ X, InC G C X → ∀ (F : Hp) (σ : L2.St) (H : Hp), Hold F Γ O σ H → ∀ Q : VK, (∀ F' H' p, Gw F F' → Hold F' Γ ((p, od) :: O) σ H' → Q (.ref p) H') → WE X e σ H Q
structure T (G : Cfg) (C : Sc) (e : Expr) (Γ : Fr) (O : Own) (b : Bool) : Prop where
  run : ∀ X, InC G C X → ∀ (F : Hp) (σ : L2.St) (H : Hp), Hold F Γ O σ H → ∀ Q : Bool → Hp → Prop, (∀ F' H', Gw F F' → Hold F' Γ O σ H' → Q b H') → WT X e σ H Q
structure TW (G : Cfg) (C : Sc) (e : Expr) (Γ : Fr) (O : Own) (b : Bool) : Prop where
  run : ∀ X, InC G C X → ∀ (F : Hp) (σ : L2.St) (H : Hp), Hold F Γ O σ H → ∀ Q : Bool → Hp → Prop, (∀ F' H', Gw F F' → Hold F' Γ O σ H' → Q b H') → WW X e σ H Q
structure A (G : Cfg) (C : Sc) (es : List Expr) (Γ : Fr) (O : Own) (ds : List D) : Prop where
  st : ∀ env, (starEach es env).any (·.1) = false
  run : ∀ X, InC G C X → ∀ (F : Hp) (σ : L2.St) (H : Hp), Hold F Γ O σ H → ∀ Q : List V → Hp → Prop, (∀ F' H' vs, Gw F F' → Hold F' Γ O σ H' → AllD F' ds vs → Q vs H') → WA X es σ H Q
def R2D (r : R2) (O : Own) (da db d : D) : Prop := ∀ F H v u, HoldO F O H → da.ok F v → db.ok F u → ∀ Q : VK, (∀ F' H' z, Gw F F' → HoldO F' O H' → d.ok F' z → Q z H') → r v u H Q
def RCD (r : List V → Hp → VK → Prop) (O : Own) (ds : List D) (d : D) : Prop := ∀ F H vs, HoldO F O H → AllD F ds vs → ∀ Q : VK, (∀ F' H' z, Gw F F' → HoldO F' O H' → d.ok F' z → Q z H') → r vs H Q
def RCN (r : List V → Hp → VK → Prop) (O : Own) (ds : List D) (od : OD) : Prop := ∀ F H vs, HoldO F O H → AllD F ds vs → ∀ Q : VK, (∀ F' H' p, Gw F F' → HoldO F' ((p, od) :: O) H' → Q (.ref p) H') → r vs H Q
section
variable {G : Cfg} {C : Sc} {Γ : Fr} {O : Own} {e a b c : Expr} {es : List Expr} {d da db dc : D} {ds : List D} {pos p1 p2 : Pos} {x : Str}
structure Var (C : Sc) (i : Nat) (x : Str) : Prop where
  n : C.N[i]? = some x
  v : Vis C.sc x
  d : (x == ("__debug__" : Str)) = false
  c : (x == ("__classdict__" : Str)) = false
def varB (C : Sc) (i : Nat) (x : Str) : Bool := decide (C.N[i]? = some x) && (match C.sc.names.lookup x with
  | some .local => true
  | some .cell => true
  | some .free => true
  | _ => false) && !(x == ("__debug__" : Str)) && !(x == ("__classdict__" : Str))
theorem var_of {C : Sc} {i : Nat} {x : Str} (h : varB C i x = true) : Var C i x := by
  unfold varB at h
  simp only [Bool.and_eq_true, decide_eq_true_eq, Bool.not_eq_true'] at h
  obtain ⟨⟨⟨h1, h2⟩, h3⟩, h4⟩ := h
  refine ⟨h1, ?_, h3, h4⟩
  unfold Vis
  revert h2
  cases C.sc.names.lookup x with
  | none => intro h; cases h
  | some k => cases k <;> intro h <;> first | exact .inl rfl | exact .inr (.inl rfl) | exact .inr (.inr rfl) | cases h
theorem e_var {i : Nat} (v : Var C i x) (hd : Γ[i]? = some (some d)) : E G C (.Name x pos) Γ O d := .mk fun X c F σ H h Q q => by
  obtain ⟨u, h1, h2⟩ := h.fr.2 i d hd
  exact we_of (pe_var (by rw [c.n]; exact v.n) (by rw [c.sc]; exact v.v) v.d v.c) ⟨u, h1, q F H u (Gw.refl F) h h2⟩
theorem e_const {v : V} (h : ∀ X, PE X e (tC v)) : E G C e Γ O (dV v) := .mk fun X c F σ H hh Q q => we_of (h X) (q F H v (Gw.refl F) hh rfl)
theorem e_int {i : Int} {j : Nat} : E G C (.Constant (.int i) j pos) Γ O (dI i) := e_const fun _ => pe_int
theorem e_bool {i : Bool} {j : Nat} : E G C (.Constant (.bool i) j pos) Γ O (dB i) := e_const fun _ => pe_bl
theorem e_none {j : Nat} : E G C (.Constant .none j pos) Γ O dN := e_const fun _ => pe_non
theorem e_str {i : Str} {j : Nat} (ho : okSb i = true := by decide +kernel) : E G C (.Constant (.str i) j pos) Γ O (dS i) := .mk fun X c F σ H hh Q q => we_of pe_str (q F H _ (Gw.refl F) hh ⟨rfl, okS_of ho⟩)
def Glo (C : Sc) (x : Str) : Prop := C.sc.names.lookup x = some .globalImplicit ∧ (x == ("__debug__" : Str)) = false ∧ x ≠ "__name__"
def gloB (C : Sc) (x : Str) : Bool := (match C.sc.names.lookup x with
  | some .globalImplicit => true
  | _ => false) && !(x == ("__debug__" : Str)) && !(x == ("__name__" : Str))
theorem glo_of {C : Sc} {x : Str} (h : gloB C x = true) : Glo C x := by
  unfold gloB at h
  simp only [Bool.and_eq_true, Bool.not_eq_true'] at h
  obtain ⟨⟨h1, h2⟩, h3⟩ := h
  refine ⟨?_, h2, fun e => by rw [e] at h3; simp at h3⟩
  revert h1
  cases C.sc.names.lookup x with
  | none => intro h; cases h
  | some k => cases k <;> intro h <;> first | rfl | cases h
theorem InC.gl {X : Cx} (c : InC G C X) (g : Glo C x) : Gl X x := by
  show X.env.scope.names.lookup x = _
  rw [c.sc]; exact g.1
theorem e_glob {v : V} {u : Value} (g : Glo C x) (hm : G.mg x = some u) (r : RelV v u) : E G C (.Name x pos) Γ O (dV v) := .mk fun X c F σ H hh Q q =>
  we_of (pe_glob (c.gl g) (by rw [c.mg]; exact hm) r g.2.1) (q F H v (Gw.refl F) hh rfl)
theorem e_as {d' : D} (h : E G C e Γ O d) (k : ∀ F v, d.ok F v → d'.ok F v) : E G C e Γ O d' := .mk fun X c F σ H hh Q q => h.run X c F σ H hh Q fun F' H' v e1 h1 d1 => q F' H' v e1 h1 (k F' v d1)
theorem e_eq {d' : D} (h : E G C e Γ O d) (k : d = d') : E G C e Γ O d' := k ▸ h
theorem freeze_lst {F : Hp} {p : Addr} {ds : List D} {H : Hp} (h : HoldO F ((p, oLst ds) :: O) H) : ∃ F', Gw F F' ∧ HoldO F' O H ∧ (dLst G.K ds).ok F' (.ref p) := by
  obtain ⟨o, _, ⟨vs, rfl, ha⟩, e, hh⟩ := h.freeze
  exact ⟨_, e, hh, p, vs, rfl, .inl (Rd.of upd_same), AllD.mono e ha⟩
theorem en_lst (h : EN G C e Γ O (oLst ds)) : E G C e Γ O (dLst G.K ds) := .mk fun X c F σ H hh Q q => h.run X c F σ H hh Q fun F' H' p e1 h1 => by
  obtain ⟨F2, e2, h2, d2⟩ := freeze_lst (G := G) h1.ho
  exact q F2 H' _ (e1.trans e2) ⟨h1.fr.mono e2, h2⟩ d2
theorem a_nil : A G C [] Γ O [] := ⟨fun _ => rfl, fun X c F σ H hh Q q => wa_of pa_nil (q F H [] (Gw.refl F) hh trivial)⟩
theorem a_cons (h : E G C e Γ O d) (hr : A G C es Γ O ds) (hs : ∀ env, starEach (e :: es) env = (false, eval e env) :: starEach es env) : A G C (e :: es) Γ O (d :: ds) :=
  ⟨fun env => by rw [hs, List.any_cons, hr.st]; rfl, fun X c F σ H hh Q q => by
    refine wa_of (pa_cons pe_can pa_can (hs X.env)) (h.run X c F σ H hh _ fun F1 H1 v e1 h1 d1 => ?_)
    exact hr.run X c F1 σ H1 h1 _ fun F2 H2 vs e2 h2 d2 => q F2 H2 _ (e1.trans e2) h2 ⟨d.mono e2 d1, d2⟩⟩
theorem A.bt (h : A G C es Γ O ds) (pos : Pos) (env : Env) : (backTo pos (starEach es env)).any (·.1) = false := by
  unfold backTo
  rw [List.any_map]
  exact h.st env
theorem e_tup {k : Nat} (h : A G C es Γ O ds) (hl : ds.length ≤ 100000) : E G C (.Tuple es k pos) Γ O (dTup G.K ds) := .mk fun X c F σ H hh Q q => by
  refine we_of (pe_tup pa_can) (h.run X c F σ H hh _ fun F1 H1 vs e1 h1 d1 => ⟨?_, fun p hp => ?_⟩)
  · rw [AllD.length d1]; exact Nat.le_trans hl (by decide)
  · obtain ⟨h2, e2⟩ := h1.ho.laid (o := .tup vs) hp
    exact q _ _ _ (e1.trans e2) (h1.mono e2 h2) ⟨p, vs, rfl, .inl (.inl upd_same), AllD.mono e2 d1⟩
theorem en_list (h : A G C es Γ O ds) (hl : ds.length ≤ 100000) : EN G C (.List es pos) Γ O (oLst ds) := .mk fun X c F σ H hh Q q => by
  refine we_of (pe_lst pa_can) (h.run X c F σ H hh _ fun F1 H1 vs e1 h1 d1 => ⟨?_, fun p hp => ?_⟩)
  · rw [AllD.length d1]; exact Nat.le_trans hl (by decide)
  · exact q F1 _ p e1 ⟨h1.fr, h1.ho.own hp ⟨vs, rfl, d1⟩⟩
theorem e_op {op : Operator} {r : R2} (ho : ∀ X, InC G C X → OpR X (binaryOp op) r) (hr : R2D r O da db d) (ha : E G C a Γ O da) (hb : E G C b Γ O db) : E G C (.BinOp a op b pos) Γ O d := .mk fun X c F σ H hh Q q => by
  refine we_of (pe_op (ho X c) pe_can pe_can) (ha.run X c F σ H hh _ fun F1 H1 v e1 h1 d1 => ?_)
  refine hb.run X c F1 σ H1 h1 _ fun F2 H2 u e2 h2 d2 => ?_
  exact hr F2 H2 v u h2.ho (da.mono e2 d1) d2 _ fun F3 H3 z e3 h3 d3 => q F3 H3 z ((e1.trans e2).trans e3) (h2.mono e3 h3) d3
theorem r2_I0 {g : Int → Int → V} {i j : Int} : R2D (rI0 g) O (dI i) (dI j) (dV (g i j)) := fun F H v u hh h1 h2 Q q => ⟨i, j, h1, h2, q F H _ (Gw.refl F) hh rfl⟩
theorem r2_I {P : Int → Int → Prop} {g : Int → Int → V} {i j : Int} (hp : P i j) : R2D (rI P g) O (dI i) (dI j) (dV (g i j)) := fun F H v u hh h1 h2 Q q => ⟨i, j, h1, h2, hp, q F H _ (Gw.refl F) hh rfl⟩
theorem e_add {i j : Int} (ha : E G C a Γ O (dI i)) (hb : E G C b Γ O (dI j)) : E G C (.BinOp a .Add b pos) Γ O (dI (i + j)) := e_op (fun _ _ => op_add) r2_I0 ha hb
theorem e_sub {i j : Int} (ha : E G C a Γ O (dI i)) (hb : E G C b Γ O (dI j)) : E G C (.BinOp a .Sub b pos) Γ O (dI (i - j)) := e_op (fun _ _ => op_sub) r2_I0 ha hb
theorem e_mul {i j : Int} (ha : E G C a Γ O (dI i)) (hb : E G C b Γ O (dI j)) (hm : CMul i j) : E G C (.BinOp a .Mult b pos) Γ O (dI (i * j)) := e_op (fun _ _ => op_mul) (r2_I hm) ha hb
theorem e_mod {i j : Int} (ha : E G C a Γ O (dI i)) (hb : E G C b Γ O (dI j)) (hm : 0 < j) : E G C (.BinOp a .Mod b pos) Γ O (dI (i % j)) := e_op (fun _ _ => op_mod) (r2_I hm) ha hb
theorem e_div {i j : Int} (ha : E G C a Γ O (dI i)) (hb : E G C b Γ O (dI j)) (hm : CDiv i j) : E G C (.BinOp a .FloorDiv b pos) Γ O (dI (i / j)) := e_op (fun _ _ => op_fdiv) (r2_I hm) ha hb
theorem e_pow {i j : Int} (ha : E G C a Γ O (dI i)) (hb : E G C b Γ O (dI j)) (hm : CPow i j) : E G C (.BinOp a .Pow b pos) Γ O (dI (i ^ j.toNat)) := e_op (fun _ _ => op_pow) (r2_I hm) ha hb
theorem e_addS {i j : Str} (ha : E G C a Γ O (dS i)) (hb : E G C b Γ O (dS j)) (hl : i.length + j.length ≤ sizeLine) : E G C (.BinOp a .Add b pos) Γ O (dS (i ++ j)) :=
  e_op (da := dS i) (db := dS j) (fun _ _ => op_add_str) (fun F H v u hh h1 h2 Q q => ⟨i, j, h1.1, h2.1, hl, q F H _ (Gw.refl F) hh ⟨rfl, okS_app h1.2 h2.2 hl⟩⟩) ha hb
structure CmpR (G : Cfg) (C : Sc) (op : CmpOp) (O : Own) (da db : D) (k : Bool) : Prop where
  ex : ∀ X, InC G C X → ∃ r, OpR X (compareOp op) r ∧ R2D r O da db (dB k)
theorem cmp_of {op : CmpOp} {r : R2} {k : Bool} (ho : ∀ X, InC G C X → OpR X (compareOp op) r) (hr : R2D r O da db (dB k)) : CmpR G C op O da db k := ⟨fun X c => ⟨r, ho X c, hr⟩⟩
theorem e_cmp {op : CmpOp} {k : Bool} (r : CmpR G C op O da db k) (ha : E G C a Γ O da) (hb : E G C b Γ O db) (hm : behindInMarks op b = false) : E G C (.Compare a [op] [b] pos) Γ O (dB k) := .mk fun X c F σ H hh Q q => by
  obtain ⟨r, ho, hr⟩ := r.ex X c
  refine we_of (pe_cmpR ho pe_can pe_can hm) (ha.run X c F σ H hh _ fun F1 H1 v e1 h1 d1 => ?_)
  refine hb.run X c F1 σ H1 h1 _ fun F2 H2 u e2 h2 d2 => ?_
  exact hr F2 H2 v u h2.ho (da.mono e2 d1) d2 _ fun F3 H3 z e3 h3 d3 => q F3 H3 z ((e1.trans e2).trans e3) (h2.mono e3 h3) d3
theorem t_cmp {op : CmpOp} {k : Bool} (r : CmpR G C op O da db k) (ha : E G C a Γ O da) (hb : E G C b Γ O db) (hm : behindInMarks op b = false) : T G C (.Compare a [op] [b] pos) Γ O k := .mk fun X c F σ H hh Q q => by
  obtain ⟨r, ho, hr⟩ := r.ex X c
  refine wt_of (pt_cmpR ho pe_can pe_can hm) (ha.run X c F σ H hh _ fun F1 H1 v e1 h1 d1 => ?_)
  refine hb.run X c F1 σ H1 h1 _ fun F2 H2 u e2 h2 d2 => ?_
  exact hr F2 H2 v u h2.ho (da.mono e2 d1) d2 _ fun F3 H3 z e3 h3 d3 => ⟨k, d3, q F3 H3 ((e1.trans e2).trans e3) (h2.mono e3 h3)⟩
theorem e_chain {op op' : CmpOp} {k k' : Bool} (r : CmpR G C op O da db k) (r' : k = true → CmpR G C op' O db dc k') (ha : E G C a Γ O da) (hb : E G C b Γ O db) (hc : k = true → E G C c Γ O dc)
    (hx : ∀ X {r1 r2 : R2} {ta tb tc : TE}, OpR X (compareOp op) r1 → OpR X (compareOp op') r2 → PE X a ta → PE X b tb → PE X c tc → PE X (.Compare a [op, op'] [b, c] pos) (tChain r1 r2 ta tb tc)) : E G C (.Compare a [op, op'] [b, c] pos) Γ O (dB (k && k')) := .mk fun X c0 F σ H hh Q q => by
  obtain ⟨r, ho, hr⟩ := r.ex X c0
  cases k with
  | false =>
    refine we_of (hx X (r2 := fun _ _ _ _ => False) ho (fun _ _ _ _ _ _ _ _ _ _ _ _ h => h.elim) pe_can pe_can pe_can) (ha.run X c0 F σ H hh _ fun F1 H1 v e1 h1 d1 => ?_)
    refine hb.run X c0 F1 σ H1 h1 _ fun F2 H2 u e2 h2 d2 => ?_
    exact hr F2 H2 v u h2.ho (da.mono e2 d1) d2 _ fun F3 H3 z e3 h3 d3 => ⟨false, d3, iteF (q F3 H3 _ ((e1.trans e2).trans e3) (h2.mono e3 h3) rfl)⟩
  | true =>
    obtain ⟨r2, ho2, hr2⟩ := (r' rfl).ex X c0
    refine we_of (hx X ho ho2 pe_can pe_can pe_can) (ha.run X c0 F σ H hh _ fun F1 H1 v e1 h1 d1 => ?_)
    refine hb.run X c0 F1 σ H1 h1 _ fun F2 H2 u e2 h2 d2 => ?_
    exact hr F2 H2 v u h2.ho (da.mono e2 d1) d2 _ fun F3 H3 z e3 h3 d3 => ⟨true, d3, iteT ((hc rfl).run X c0 F3 σ H3 (h2.mono e3 h3) _ fun F4 H4 y e4 h4 d4 =>
      hr2 F4 H4 u y h4.ho (db.mono (e3.trans e4) d2) d4 _ fun F5 H5 z e5 h5 d5 => q F5 H5 z ((((e1.trans e2).trans e3).trans e4).trans e5) (h4.mono e5 h5) d5)⟩
theorem t_chain {op op' : CmpOp} {k k' : Bool} (r : CmpR G C op O da db k) (r' : k = true → CmpR G C op' O db dc k') (ha : E G C a Γ O da) (hb : E G C b Γ O db) (hc : k = true → E G C c Γ O dc)
    (hx : ∀ X {r1 r2 : R2} {ta tb tc : TE}, OpR X (compareOp op) r1 → OpR X (compareOp op') r2 → PE X a ta → PE X b tb → PE X c tc → PT X (.Compare a [op, op'] [b, c] pos) (tTest (tChain r1 r2 ta tb tc))) : T G C (.Compare a [op, op'] [b, c] pos) Γ O (k && k') := .mk fun X c0 F σ H hh Q q => by
  obtain ⟨r, ho, hr⟩ := r.ex X c0
  cases k with
  | false =>
    refine wt_of (hx X (r2 := fun _ _ _ _ => False) ho (fun _ _ _ _ _ _ _ _ _ _ _ _ h => h.elim) pe_can pe_can pe_can) (ha.run X c0 F σ H hh _ fun F1 H1 v e1 h1 d1 => ?_)
    refine hb.run X c0 F1 σ H1 h1 _ fun F2 H2 u e2 h2 d2 => ?_
    exact hr F2 H2 v u h2.ho (da.mono e2 d1) d2 _ fun F3 H3 z e3 h3 d3 => ⟨false, d3, iteF ⟨false, rfl, q F3 H3 ((e1.trans e2).trans e3) (h2.mono e3 h3)⟩⟩
  | true =>
    obtain ⟨r2, ho2, hr2⟩ := (r' rfl).ex X c0
    refine wt_of (hx X ho ho2 pe_can pe_can pe_can) (ha.run X c0 F σ H hh _ fun F1 H1 v e1 h1 d1 => ?_)
    refine hb.run X c0 F1 σ H1 h1 _ fun F2 H2 u e2 h2 d2 => ?_
    exact hr F2 H2 v u h2.ho (da.mono e2 d1) d2 _ fun F3 H3 z e3 h3 d3 => ⟨true, d3, iteT ((hc rfl).run X c0 F3 σ H3 (h2.mono e3 h3) _ fun F4 H4 y e4 h4 d4 =>
      hr2 F4 H4 u y h4.ho (db.mono (e3.trans e4) d2) d4 _ fun F5 H5 z e5 h5 d5 => ⟨k', d5, q F5 H5 ((((e1.trans e2).trans e3).trans e4).trans e5) (h4.mono e5 h5)⟩)⟩
theorem c_lt {i j : Int} : CmpR G C .Lt O (dI i) (dI j) (decide (i < j)) := cmp_of (fun _ _ => op_lt) r2_I0
theorem c_le {i j : Int} : CmpR G C .LtE O (dI i) (dI j) (decide (i ≤ j)) := cmp_of (fun _ _ => op_le) r2_I0
theorem c_gt {i j : Int} : CmpR G C .Gt O (dI i) (dI j) (decide (j < i)) := cmp_of (fun _ _ => op_gt) r2_I0
theorem c_eqV {v u : V} (h : scal v u = true) : CmpR G C .Eq O (dV v) (dV u) (decide (v = u)) := cmp_of (fun _ _ => op_eq) fun F H x y hh h1 h2 Q q => by
  cases h1; cases h2
  exact ⟨h, q F H _ (Gw.refl F) hh rfl⟩
theorem c_neV {v u : V} (h : scal v u = true) : CmpR G C .NotEq O (dV v) (dV u) (!decide (v = u)) := cmp_of (fun _ _ => op_ne) fun F H x y hh h1 h2 Q q => by
  cases h1; cases h2
  exact ⟨h, q F H _ (Gw.refl F) hh rfl⟩
theorem dec_iff {p q : Prop} [Decidable p] [Decidable q] (h : p ↔ q) : decide p = decide q := by
  by_cases hp : p
  · rw [decide_eq_true hp, decide_eq_true (h.mp hp)]
  · rw [decide_eq_false hp, decide_eq_false fun z => hp (h.mpr z)]
theorem c_is {op : CmpOp} {k k' : Bool} (h : CmpR G C op O da db k) (e : k = k') : CmpR G C op O da db k' := e ▸ h
theorem c_weak {op : CmpOp} {k : Bool} {da' db' : D} (h : CmpR G C op O da db k) (ha : ∀ F v, da'.ok F v → da.ok F v) (hb : ∀ F v, db'.ok F v → db.ok F v) : CmpR G C op O da' db' k := ⟨fun X c => by
  obtain ⟨r, ho, hr⟩ := h.ex X c
  exact ⟨r, ho, fun F H v u hh h1 h2 Q q => hr F H v u hh (ha F v h1) (hb F u h2) Q q⟩⟩
theorem c_eqI {i j : Int} : CmpR G C .Eq O (dI i) (dI j) (decide (i = j)) := c_is (c_eqV rfl) (dec_iff ⟨fun h => V.int.inj h, fun h => by rw [h]⟩)
theorem c_neI {i j : Int} : CmpR G C .NotEq O (dI i) (dI j) (!decide (i = j)) := c_is (c_neV rfl) (by rw [dec_iff ⟨fun h => V.int.inj h, fun h => by rw [h]⟩])
theorem c_eqS {i j : Str} : CmpR G C .Eq O (dS i) (dS j) (decide (i = j)) := c_weak (da := dV (.str i)) (db := dV (.str j)) (c_is (c_eqV rfl) (dec_iff ⟨fun h => V.str.inj h, fun h => by rw [h]⟩)) (fun _ _ h => h.1) (fun _ _ h => h.1)
theorem c_neS {i j : Str} : CmpR G C .NotEq O (dS i) (dS j) (!decide (i = j)) := c_weak (da := dV (.str i)) (db := dV (.str j)) (c_is (c_neV rfl) (by rw [dec_iff ⟨fun h => V.str.inj h, fun h => by rw [h]⟩])) (fun _ _ h => h.1) (fun _ _ h => h.1)
theorem c_eqB {i j : Bool} : CmpR G C .Eq O (dB i) (dB j) (decide (i = j)) := c_is (c_eqV rfl) (dec_iff ⟨fun h => V.bl.inj h, fun h => by rw [h]⟩)
theorem c_neB {i j : Bool} : CmpR G C .NotEq O (dB i) (dB j) (!decide (i = j)) := c_is (c_neV rfl) (by rw [dec_iff ⟨fun h => V.bl.inj h, fun h => by rw [h]⟩])
theorem t_val {k : Bool} (h : E G C e Γ O (dB k)) (he : ∀ (env : Env) whole, isTrue e env whole = (do let v ← whole; standAt e.pos; holding [v] (truthy v))) : T G C e Γ O k := .mk fun X c F σ H hh Q q =>
  wt_of (pt_val pe_can (he X.env)) (h.run X c F σ H hh _ fun F1 H1 v e1 h1 d1 => ⟨k, d1, q F1 H1 e1 h1⟩)
theorem t_not {k : Bool} (h : T G C a Γ O k) : T G C (.UnaryOp .Not a pos) Γ O (!k) := .mk fun X c F σ H hh Q q => wt_of (pt_not pt_can) (h.run X c F σ H hh _ fun F1 H1 e1 h1 => q F1 H1 e1 h1)
theorem t_w {k : Bool} (h : TW G C e Γ O k) : T G C e Γ O k := .mk fun X c F σ H hh Q q => wt_of (PW.pt pw_can) (h.run X c F σ H hh Q q)
theorem w_and1 {k : Bool} (h : T G C a Γ O k) : TW G C (.BoolOp .And [a] pos) Γ O k := .mk fun X c F σ H hh Q q => ww_of (pw_and1 pt_can) (h.run X c F σ H hh Q q)
theorem w_or1 {k : Bool} (h : T G C a Γ O k) : TW G C (.BoolOp .Or [a] pos) Γ O k := .mk fun X c F σ H hh Q q => ww_of (pw_or1 pt_can) (h.run X c F σ H hh Q q)
theorem w_and {k k' : Bool} (h : T G C a Γ O k) (h2 : k = true → TW G C (.BoolOp .And (b :: es) pos) Γ O k') : TW G C (.BoolOp .And (a :: b :: es) pos) Γ O (k && k') := .mk fun X c F σ H hh Q q =>
  ww_of (pw_and pt_can pw_can) (h.run X c F σ H hh _ fun F1 H1 e1 h1 => by
    cases k with
    | true => exact iteT ((h2 rfl).run X c F1 σ H1 h1 _ fun F2 H2 e2 h3 => q F2 H2 (e1.trans e2) h3)
    | false => exact iteF (q F1 H1 e1 h1))
theorem w_or {k k' : Bool} (h : T G C a Γ O k) (h2 : k = false → TW G C (.BoolOp .Or (b :: es) pos) Γ O k') : TW G C (.BoolOp .Or (a :: b :: es) pos) Γ O (k || k') := .mk fun X c F σ H hh Q q =>
  ww_of (pw_or pt_can pw_can) (h.run X c F σ H hh _ fun F1 H1 e1 h1 => by
    cases k with
    | false => exact iteF ((h2 rfl).run X c F1 σ H1 h1 _ fun F2 H2 e2 h3 => q F2 H2 (e1.trans e2) h3)
    | true => exact iteT (q F1 H1 e1 h1))
theorem e_bool1 {op : BoolOp} {d : D} (h : E G C a Γ O d) : E G C (.BoolOp op [a] pos) Γ O d := .mk fun X c F σ H hh Q q => we_of (pe_one pe_can) (h.run X c F σ H hh Q q)
theorem e_and {k k' : Bool} (h : E G C a Γ O (dB k)) (h2 : k = true → E G C (.BoolOp .And (b :: es) pos) Γ O (dB k')) : E G C (.BoolOp .And (a :: b :: es) pos) Γ O (dB (k && k')) := .mk fun X c F σ H hh Q q =>
  we_of (pe_and pe_can pe_can) (h.run X c F σ H hh _ fun F1 H1 v e1 h1 d1 => ⟨k, d1, by
    cases k with
    | true => exact iteT ((h2 rfl).run X c F1 σ H1 h1 _ fun F2 H2 u e2 h3 d3 => q F2 H2 u (e1.trans e2) h3 d3)
    | false => exact iteF (q F1 H1 _ e1 h1 rfl)⟩)
theorem e_or {k k' : Bool} (h : E G C a Γ O (dB k)) (h2 : k = false → E G C (.BoolOp .Or (b :: es) pos) Γ O (dB k')) : E G C (.BoolOp .Or (a :: b :: es) pos) Γ O (dB (k || k')) := .mk fun X c F σ H hh Q q =>
  we_of (pe_or pe_can pe_can) (h.run X c F σ H hh _ fun F1 H1 v e1 h1 d1 => ⟨k, d1, by
    cases k with
    | false => exact iteF ((h2 rfl).run X c F1 σ H1 h1 _ fun F2 H2 u e2 h3 d3 => q F2 H2 u (e1.trans e2) h3 d3)
    | true => exact iteT (q F1 H1 _ e1 h1 rfl)⟩)
theorem e_not {k : Bool} (h : E G C a Γ O (dB k)) : E G C (.UnaryOp .Not a pos) Γ O (dB (!k)) := .mk fun X c F σ H hh Q q =>
  we_of (pe_not pe_can) (h.run X c F σ H hh _ fun F1 H1 v e1 h1 d1 => ⟨k, d1, q F1 H1 _ e1 h1 rfl⟩)
end
end Kn
namespace Kn
open PySem PySem.Spec L2
abbrev Exn := Str × List (Str × V)
inductive Out (S R : Type) where
  | nx (s : S)
  | rt (r : R)
  | ex (x : Exn)
structure SD where
  ok : Hp → L2.St → Hp → Prop
  anti : ∀ {F F' : Hp} {σ : L2.St} {H : Hp}, Gw F F' → ok F' σ H → ok F σ H
structure RK where
  ok : Hp → V → Hp → Prop
  anti : ∀ {F F' : Hp} {v : V} {H : Hp}, Gw F F' → ok F' v H → ok F v H
  xo : Hp → Value → Option Addr → Hp → Prop
  xanti : ∀ {F F' : Hp} {c : Value} {d : Option Addr} {H : Hp}, Gw F F' → xo F' c d H → xo F c d H
abbrev noXo : Hp → Value → Option Addr → Hp → Prop := fun _ _ _ _ => False
abbrev RK.NoX (rk : RK) : Prop := ∀ F c d H, ¬ rk.xo F c d H
structure XD where
  ok : Hp → Value → Option Addr → L2.St → Hp → Prop
  anti : ∀ {F F' : Hp} {c : Value} {d : Option Addr} {σ : L2.St} {H : Hp}, Gw F F' → ok F' c d σ H → ok F c d σ H
def SD.of (Γ : Fr) (O : Own) : SD := ⟨fun F σ H => ∃ F', Gw F F' ∧ Hold F' Γ O σ H, fun e ⟨F', e2, h⟩ => ⟨F', e.trans e2, h⟩⟩
def RK.val (d : D) (O : Own) : RK := ⟨fun F v H => ∃ F', Gw F F' ∧ HoldO F' O H ∧ d.ok F' v, fun e ⟨F', e2, h⟩ => ⟨F', e.trans e2, h⟩, noXo, fun _ z => z⟩
def RK.new (od : OD) (O : Own) : RK := ⟨fun F v H => ∃ F' p, Gw F F' ∧ v = .ref p ∧ HoldO F' ((p, od) :: O) H, fun e ⟨F', p, e2, h⟩ => ⟨F', p, e.trans e2, h⟩, noXo, fun _ z => z⟩
def XD.no : XD := ⟨fun _ _ _ _ _ => False, fun _ h => h⟩
structure Ek (S R : Type) where
  fs : S → SD
  rs : R → RK
  xs : Exn → XD
abbrev Ek.to {S R S' : Type} (k : Ek S R) (fs : S' → SD) : Ek S' R := ⟨fs, k.rs, k.xs⟩
def meet {S R : Type} (k : Ek S R) (F : Hp) (D : Ends) (W : WX) : Out S R → Prop
  | .nx s => ∀ σ H, (k.fs s).ok F σ H → D.nx σ H
  | .rt r => (∀ v H, (k.rs r).ok F v H → D.rt v H) ∧ ∀ c d σ H, (k.rs r).xo F c d H → W c d σ H
  | .ex x => ∀ c d σ H, (k.xs x).ok F c d σ H → W c d σ H
theorem meet.mono {S R : Type} {k : Ek S R} {F F' : Hp} {D : Ends} {W : WX} (e : Gw F F') : ∀ {o : Out S R}, meet k F D W o → meet k F' D W o
  | .nx s, h => fun σ H q => h σ H ((k.fs s).anti e q)
  | .rt r, h => ⟨fun v H q => h.1 v H ((k.rs r).anti e q), fun c d σ H q => h.2 c d σ H ((k.rs r).xanti e q)⟩
  | .ex x, h => fun c d σ H q => h c d σ H ((k.xs x).anti e q)
def WSs (X : Cx) (ss : List Stmt) : TS := fun D σ H => ∀ (pins : List (Addr × Obj)) (s : Shared), Inv X pins σ H s → wpAny (model X.prog X.w) X.A (execs ss X.env) (SP X pins D) X.xe s
theorem pss_can {X : Cx} {ss : List Stmt} : PSs X ss (WSs X ss) := ⟨fun pins s _ _ _ I h => h pins s I⟩
theorem wss_of {X : Cx} {ss : List Stmt} {t : TS} {D : Ends} {σ : L2.St} {H : Hp} (h : PSs X ss t) (q : t D σ H) : WSs X ss D σ H := fun pins s I => h.run pins s σ H D I q
structure SS (G : Cfg) (C : Sc) (ss : List Stmt) (Γ : Fr) (O : Own) {S R : Type} (k : Ek S R) (o : Out S R) : Prop where
  run : ∀ X, InC G C X → ∀ W, Takes X W → ∀ (F : Hp) (σ : L2.St) (H : Hp), Hold F Γ O σ H → ∀ D, meet k F D W o → WSs X ss D σ H
def lt {α β : Type} (a : α) (f : α → β) : β := f a
section
variable {G : Cfg} {C : Sc} {Γ Γ' : Fr} {O O' : Own} {S S1 R B : Type} {k : Ek S R} {o : Out S R} {e c : Expr} {d : D} {ss ta tb : List Stmt} {st : Stmt} {pos p1 p2 : Pos} {x : Str}
theorem ss_cons {t : Cx → TS} (hp : ∀ X, InC G C X → PS X st (t X)) (h : ∀ X, InC G C X → ∀ W, Takes X W → ∀ (F : Hp) (σ : L2.St) (H : Hp), Hold F Γ O σ H → ∀ D, meet k F D W o → t X { D with nx := WSs X ss D } σ H) : SS G C (st :: ss) Γ O k o := .mk fun X c W tk F σ H hh D m =>
  wss_of (pss_cons (hp X c) pss_can) (h X c W tk F σ H hh D m)
def FrLe : Fr → Fr → Prop
  | [], [] => True
  | a :: Γ, b :: Γ' => (b = none ∨ b = a) ∧ FrLe Γ Γ'
  | _, _ => False
theorem FrLe.at : ∀ {Γ Γ' : Fr} {i : Nat} {d : D}, FrLe Γ Γ' → Γ'[i]? = some (some d) → Γ[i]? = some (some d)
  | [], [], _, _, _, e => by simp at e
  | a :: Γ, b :: Γ', 0, d, h, e => by
    simp at e
    subst e
    rcases h.1 with h | h
    · cases h
    · rw [← h]; rfl
  | a :: Γ, b :: Γ', i + 1, d, h, e => by
    simp at e ⊢
    exact FrLe.at h.2 e
  | [], _ :: _, _, _, h, _ => h.elim
  | _ :: _, [], _, _, h, _ => h.elim
theorem FrLe.len : ∀ {Γ Γ' : Fr}, FrLe Γ Γ' → Γ'.length = Γ.length
  | [], [], _ => rfl
  | _ :: _, _ :: _, h => by simp [FrLe.len h.2]
  | [], _ :: _, h => h.elim
  | _ :: _, [], h => h.elim
theorem FrOk.le {F : Hp} {σ : L2.St} (h : FrOk F Γ σ) (l : FrLe Γ Γ') : FrOk F Γ' σ := ⟨by rw [l.len]; exact h.1, fun i d e => h.2 i d (l.at e)⟩
theorem FrLe.refl : ∀ {Γ : Fr}, FrLe Γ Γ
  | [] => trivial
  | _ :: _ => ⟨.inr rfl, FrLe.refl⟩
theorem ss_nil {s : S} (h : ∀ F σ H, Hold F Γ O σ H → (k.fs s).ok F σ H) : SS G C [] Γ O k (.nx s) := .mk fun X c W tk F σ H hh D m => wss_of pss_nil (m σ H (h F σ H hh))
theorem ss_end {s : S1} {fs : S1 → SD} {S2 : Type} {k2 : Ek S2 R} (h : ∀ F σ H, Hold F Γ O σ H → (fs s).ok F σ H) : SS G C [] Γ O (k2.to fs) (.nx s) := ss_nil h
theorem hold_end (l : FrLe Γ Γ') : ∀ F σ H, Hold F Γ O σ H → (SD.of Γ' O).ok F σ H := fun F σ H hh => ⟨F, Gw.refl F, hh.fr.le l, hh.ho⟩
theorem ss_ret {r : R} (h : E G C e Γ O d) (hr : ∀ F v H, (RK.val d O).ok F v H → (k.rs r).ok F v H) : SS G C (.Return (some e) pos :: ss) Γ O k (.rt r) :=
  ss_cons (t := fun X => tRet (WE X e)) (fun _ _ => ps_ret pe_can) fun X c W tk F σ H hh D m => h.run X c F σ H hh _ fun F1 H1 v e1 h1 d1 => m.1 v H1 (hr F v H1 ⟨F1, e1, h1.ho, d1⟩)
theorem ss_retN {od : OD} {r : R} (h : EN G C e Γ O od) (hr : ∀ F v H, (RK.new od O).ok F v H → (k.rs r).ok F v H) : SS G C (.Return (some e) pos :: ss) Γ O k (.rt r) :=
  ss_cons (t := fun X => tRet (WE X e)) (fun _ _ => ps_ret pe_can) fun X c W tk F σ H hh D m => h.run X c F σ H hh _ fun F1 H1 p e1 h1 => m.1 _ H1 (hr F _ H1 ⟨F1, p, e1, rfl, h1.ho⟩)
structure Loca (C : Sc) (i : Nat) (x : Str) : Prop where
  n : C.N[i]? = some x
  nd : C.N.Nodup
  l : L2.Loc C.sc x
  f : C.top = true ∨ C.sc.names.lookup x = some .local
def locB (C : Sc) (i : Nat) (x : Str) : Bool := decide (C.N[i]? = some x) && decide C.N.Nodup && (match C.sc.names.lookup x with
  | some .local => true
  | some .cell => C.top
  | _ => false)
theorem loc_of {C : Sc} {i : Nat} {x : Str} (h : locB C i x = true) : Loca C i x := by
  unfold locB at h
  simp only [Bool.and_eq_true, decide_eq_true_eq] at h
  obtain ⟨⟨h1, h2⟩, h3⟩ := h
  refine ⟨h1, h2, ?_, ?_⟩
  · unfold L2.Loc
    revert h3
    cases C.sc.names.lookup x with
    | none => intro h; cases h
    | some k => cases k <;> intro h <;> first | exact .inl rfl | exact .inr rfl | cases h
  · revert h3
    cases C.sc.names.lookup x with
    | none => intro h; cases h
    | some k => cases k <;> intro h <;> first | exact .inr rfl | exact .inl h | cases h
theorem Loca.pg {X : Cx} {i : Nat} (l : Loca C i x) (c : InC G C X) : PG X (.Name x pos) (gName i) :=
  pg_name (by rw [c.n]; exact l.nd) (by rw [c.n]; exact l.n) (by rw [c.sc]; exact l.l) (by rcases l.f with h | h; exact .inl (c.fn h x); exact .inr (by rw [c.sc]; exact h))
theorem ss_asg {α : Type} {f : α → D} {a : α} {i : Nat} (ι : B → Out S R) {g : α → B} (l : Loca C i x) (hs : ∀ env, swapsWith e (some (.Name x p1)) pos.line env = pure false) (h : E G C e Γ O (f a)) (hr : ∀ y, y = a → SS G C ss (Γ.set i (some (f y))) O k (ι (g y))) : SS G C (.Assign [.Name x p1] e pos :: ss) Γ O k (ι (lt a g)) :=
  ss_cons (t := fun X => tAsg (WE X e) (gName i)) (fun X c => ps_set (by rw [c.n]; exact l.nd) (by rw [c.n]; exact l.n) (by rw [c.sc]; exact l.l) pe_can (hs X.env) (by rcases l.f with h | h; exact .inl (c.fn h x); exact .inr (by rw [c.sc]; exact h)))
    fun X c W tk F σ H hh D m => h.run X c F σ H hh _ fun F1 H1 v e1 h1 d1 => (hr a rfl).run X c W tk F1 _ H1 (h1.set i d1) D (meet.mono e1 m)
theorem ss_new {od : OD} {i : Nat} (l : Loca C i x) (hs : ∀ env, swapsWith e (some (.Name x p1)) pos.line env = pure false) (h : EN G C e Γ O od) (hr : ∀ p, SS G C ss (Γ.set i (some (dP p))) ((p, od) :: O) k o) : SS G C (.Assign [.Name x p1] e pos :: ss) Γ O k o :=
  ss_cons (t := fun X => tAsg (WE X e) (gName i)) (fun X c => ps_set (by rw [c.n]; exact l.nd) (by rw [c.n]; exact l.n) (by rw [c.sc]; exact l.l) pe_can (hs X.env) (by rcases l.f with h | h; exact .inl (c.fn h x); exact .inr (by rw [c.sc]; exact h)))
    fun X c W tk F σ H hh D m => h.run X c F σ H hh _ fun F1 H1 p e1 h1 => (hr p).run X c W tk F1 _ H1 (Hold.set i h1 rfl) D (meet.mono e1 m)
theorem ss_if {b : Bool} {r1 r2 : B} (ι : B → Out S R) (h : T G C c Γ O b) (h1 : b = true → SS G C ta Γ O k (ι r1)) (h2 : b = false → SS G C tb Γ O k (ι r2)) : SS G C [.If c ta tb pos] Γ O k (ι (if b then r1 else r2)) := .mk fun X c0 W tk F σ H hh D m =>
  wss_of (t := tIfS (WT X c) (WSs X ta) (WSs X tb)) (pss_one (ps_if pt_can pss_can pss_can)) (h.run X c0 F σ H hh _ fun F1 H1 e1 h3 => by
    cases b with
    | true => exact iteT ((h1 rfl).run X c0 W tk F1 σ H1 h3 D (meet.mono e1 m))
    | false => exact iteF ((h2 rfl).run X c0 W tk F1 σ H1 h3 D (meet.mono e1 m)))
theorem ss_when {b : Bool} {r1 r2 : B} (ι : B → Out S R) (h : T G C c Γ O b) (hn : ∀ s, ι r1 ≠ .nx s) (h1 : b = true → SS G C ta Γ O k (ι r1)) (h2 : b = false → SS G C ss Γ O k (ι r2)) : SS G C (.If c ta [] pos :: ss) Γ O k (ι (if b then r1 else r2)) := .mk fun X c0 W tk F σ H hh D m =>
  wss_of (t := tSeq (tIfS (WT X c) (WSs X ta) tNext) (WSs X ss)) (pss_cons (ps_if pt_can pss_can pss_nil) pss_can) (h.run X c0 F σ H hh _ fun F1 H1 e1 h3 => by
    cases b with
    | true =>
      refine iteT ((h1 rfl).run X c0 W tk F1 σ H1 h3 _ ?_)
      have m1 := meet.mono e1 m
      rw [if_pos rfl] at m1
      revert m1 hn
      generalize ι r1 = o1
      intro hn m1
      cases o1 with
      | nx s => exact absurd rfl (hn s)
      | rt r => exact m1
      | ex x => exact m1
    | false => exact iteF ((h2 rfl).run X c0 W tk F1 σ H1 h3 D (meet.mono e1 m)))
def Out.bind (o : Out S1 R) (g : S1 → Out S R) : Out S R := match o with
  | .nx s => g s
  | .rt r => .rt r
  | .ex x => .ex x
end
end Kn
namespace Kn
open PySem PySem.Spec L2
def WG (X : Cx) (tg : Expr) : TG := fun v σ H Q => ∀ (pins : List (Addr × Obj)) (s : Shared) (u : Value), Inv X pins σ H s → RelV v u → wpAny (model X.prog X.w) X.A (assign tg X.env u) (fun _ s' => ∃ σ' H', Inv X pins σ' H' s' ∧ Q σ' H') X.xe s
theorem pg_can {X : Cx} {tg : Expr} : PG X tg (WG X tg) := ⟨fun pins s _ _ _ u _ I r h => h pins s u I r⟩
def WGs (X : Cx) (ts : List Expr) : TGs := fun vs σ H Q => ∀ (pins : List (Addr × Obj)) (s : Shared) (us : List Value), Inv X pins σ H s → Vals vs us → wpAny (model X.prog X.w) X.A (assignInOrder ((assignEach ts X.env).map (·.2)) us) (fun _ s' => ∃ σ' H', Inv X pins σ' H' s' ∧ Q σ' H') X.xe s
theorem pgs_can {X : Cx} {ts : List Expr} : PGs X ts (WGs X ts) := ⟨fun pins s _ _ _ us _ I r h => h pins s us I r⟩
def But (is : List Nat) (σ σ' : L2.St) : Prop := σ'.length = σ.length ∧ ∀ j, j ∉ is → σ'[j]? = σ[j]?
theorem But.refl {is : List Nat} {σ : L2.St} : But is σ σ := ⟨rfl, fun _ _ => rfl⟩
theorem But.trans {is js : List Nat} {σ σ1 σ2 : L2.St} (a : But is σ σ1) (b : But js σ1 σ2) : But (is ++ js) σ σ2 := ⟨b.1.trans a.1, fun j h => (b.2 j fun z => h (List.mem_append_right _ z)).trans (a.2 j fun z => h (List.mem_append_left _ z))⟩
theorem But.set {i : Nat} {σ : L2.St} {v : Option V} : But [i] σ (σ.set i v) := ⟨List.length_set .., fun j h => List.getElem?_set_ne fun e => h (by rw [e]; exact List.mem_singleton.mpr rfl)⟩
structure TJ (G : Cfg) (C : Sc) (tg : Expr) (d : D) (Γ Γ' : Fr) (is : List Nat) : Prop where
  run : ∀ X, InC G C X → ∀ (F : Hp) (O : Own) (σ : L2.St) (H : Hp) (v : V), Hold F Γ O σ H → d.ok F v → ∀ Q : L2.St → Hp → Prop, (∀ σ', Hold F Γ' O σ' H → But is σ σ' → Q σ' H) → WG X tg v σ H Q
structure TJs (G : Cfg) (C : Sc) (ts : List Expr) (ds : List D) (Γ Γ' : Fr) (is : List Nat) : Prop where
  run : ∀ X, InC G C X → ∀ (F : Hp) (O : Own) (σ : L2.St) (H : Hp) (vs : List V), Hold F Γ O σ H → AllD F ds vs → ∀ Q : L2.St → Hp → Prop, (∀ σ', Hold F Γ' O σ' H → But is σ σ' → Q σ' H) → WGs X ts vs σ H Q
def forL {S α R : Type} (f : S → α → Out S R) : List α → S → Out S R
  | [], s => .nx s
  | x :: xs, s => match f s x with
    | .nx s' => forL f xs s'
    | .rt r => .rt r
    | .ex e => .ex e
theorem forL_snoc {S α R : Type} {f : S → α → Out S R} {x : α} {post : List α} : ∀ {pre : List α} {s0 s : S}, forL f pre s0 = .nx s → forL f (pre ++ x :: post) s0 = (match f s x with
    | .nx s' => forL f post s'
    | .rt r => .rt r
    | .ex e => .ex e)
  | [], s0, s, h => by cases h; rfl
  | y :: pre, s0, s, h => by
    have h1 : (match f s0 y with
      | .nx s' => forL f pre s'
      | .rt r => .rt r
      | .ex e => .ex e) = Out.nx s := h
    show (match f s0 y with
      | .nx s' => forL f (pre ++ x :: post) s'
      | .rt r => .rt r
      | .ex e => .ex e) = _
    cases e : f s0 y with
    | nx s' => rw [e] at h1; exact forL_snoc (pre := pre) h1
    | rt r => rw [e] at h1; cases h1
    | ex r => rw [e] at h1; cases h1
theorem forL_fold {S α R : Type} {h : S → α → S} : ∀ {xs : List α} {s0 : S}, forL (R := R) (fun s x => .nx (h s x)) xs s0 = .nx (xs.foldl h s0)
  | [], _ => rfl
  | _ :: xs, _ => forL_fold (xs := xs)
structure Feeds (P : Own → Prop) (J : It) (F0 : Hp) (ds : List D) : Prop where
  item : ∀ (i : Nat) (d : D), ds[i]? = some d → ∀ F O H, P O → Gw F0 F → HoldO F O H → J.go i H ∧ ∀ x H', J.yld i H x H' → ∃ F', Gw F F' ∧ HoldO F' O H' ∧ d.ok F' x
  stop : ∀ F O H, P O → Gw F0 F → HoldO F O H → J.stop ds.length H
theorem Feeds.mono {P : Own → Prop} {J : It} {F F' : Hp} {ds : List D} (h : Feeds P J F ds) (e : Gw F F') : Feeds P J F' ds := ⟨fun i d q F1 O H p e1 => h.item i d q F1 O H p (e.trans e1), fun F1 O H p e1 => h.stop F1 O H p (e.trans e1)⟩
def WI (X : Cx) (tg e : Expr) : TI := fun σ H R => ∀ (pins : List (Addr × Obj)) (s : Shared), Inv X pins σ H s → wpAny (model X.prog X.w) X.A (eval e X.env) (fun v s1 => wpAny (model X.prog X.w) X.A (pyIter v) (PIE X pins σ tg R) X.xe s1) X.xe s
theorem pi_can {X : Cx} {tg e : Expr} : PI X tg e (WI X tg e) := ⟨fun pins s _ _ _ I h => h pins s I⟩
theorem wi_of {X : Cx} {tg e : Expr} {t : TI} {σ : L2.St} {H : Hp} {R : It → Hp → Prop} (h : PI X tg e t) (q : t σ H R) : WI X tg e σ H R := fun pins s I => h.run pins s σ H R I q
structure EI (G : Cfg) (C : Sc) (tg e : Expr) (Γ : Fr) (O : Own) (P : Own → Prop) (ds : List D) : Prop where
  run : ∀ X, InC G C X → ∀ (F : Hp) (σ : L2.St) (H : Hp), Hold F Γ O σ H → ∀ R : It → Hp → Prop, (∀ J F' H', Gw F F' → Hold F' Γ O σ H' → Feeds P J F' ds → R J H') → WI X tg e σ H R
abbrev anyO : Own → Prop := fun _ => True
section
variable {G : Cfg} {C : Sc} {Γ Γ' : Fr} {O O' : Own} {S S1 R B α : Type} {k : Ek S R} {o : Out S R} {e c it tg : Expr} {d : D} {ds : List D} {ss body : List Stmt} {st : Stmt} {pos p1 p2 : Pos} {x : Str} {es : List Expr} {P : Own → Prop} {is : List Nat}
theorem tj_name {i : Nat} (l : Loca C i x) : TJ G C (.Name x pos) d Γ (Γ.set i (some d)) [i] := .mk fun X c F O σ H v hh hd Q q pins s u I r =>
  (l.pg c).run pins s σ H v u Q I r (q _ (hh.set i hd) But.set)
theorem tjs_nil : TJs G C [] [] Γ Γ [] := .mk fun X c F O σ H vs hh hd Q q pins s us I r => by
  cases vs with
  | nil => exact pgs_nil.run pins s σ H [] us Q I r ⟨rfl, q σ hh But.refl⟩
  | cons v vs => exact hd.elim
theorem tjs_cons {Γ2 : Fr} {is js : List Nat} (h : TJ G C e d Γ Γ' is) (hr : TJs G C es ds Γ' Γ2 js) (hs : ∀ env, (assignEach (e :: es) env).map (·.2) = assign e env :: (assignEach es env).map (·.2)) : TJs G C (e :: es) (d :: ds) Γ Γ2 (is ++ js) := .mk fun X c F O σ H vs hh hd Q q pins s us I r => by
  cases vs with
  | nil => exact hd.elim
  | cons v vs => exact (pgs_cons pg_can pgs_can (hs X.env)).run pins s σ H (v :: vs) us Q I r ⟨v, vs, rfl, h.run X c F O σ H v hh hd.1 _ fun σ1 h1 b1 => hr.run X c F O σ1 H vs h1 hd.2 Q fun σ2 h2 b2 => q σ2 h2 (b1.trans b2)⟩
theorem tj_tup [Calm C] {kk : Nat} {is : List Nat} (h : TJs G C es ds Γ Γ' is) (hn : ∀ env, (assignEach es env).length = ds.length) (hst : ∀ env, (assignEach es env).findIdx? (·.1) = none) : TJ G C (.Tuple es kk pos) (dTup G.K ds) Γ Γ' is := .mk fun X c F O σ H v hh hd Q q pins s u I r => by
  obtain ⟨a, vs, rfl, hs, ha⟩ := hd
  refine (pg_tup c.cm pgs_can (hn X.env) (hst X.env)).run pins s σ H _ u Q I r ⟨a, vs, rfl, by rw [c.K]; exact gw_t hh.ho.ex hs, AllD.length ha, ?_⟩
  exact h.run X c F O σ H vs hh ha Q q
theorem ss_for [Calm C] {df : α → D} {xs : List α} {f : S1 → α → Out S1 R} {s0 : S1} {g : S1 → Out S R} (Γ1 : S1 → Fr) (Γ2 : S1 → α → Fr) (O1 : S1 → Own) (hi : EI G C tg it Γ O P (xs.map df)) (l0 : FrLe Γ (Γ1 s0)) (o0 : O = O1 s0) (hP : ∀ s, P (O1 s))
    (hg : ∀ s x, TJ G C tg (df x) (Γ1 s) (Γ2 s x) is)
    (hb : ∀ s x pre post, xs = pre ++ x :: post → forL f pre s0 = .nx s → SS G C body (Γ2 s x) (O1 s) (k.to fun s => SD.of (Γ1 s) (O1 s)) (f s x))
    (hr : ∀ s, forL f xs s0 = .nx s → SS G C ss (Γ1 s) (O1 s) k (g s)) (hs : ∀ env x, foldedSetIterable it env x = pure x) : SS G C (.For tg it body [] pos :: ss) Γ O k ((forL f xs s0).bind g) :=
  ss_cons (t := fun X => tFor (WI X tg it) (WG X tg) (WSs X body)) (fun X c => ps_for c.po c.cm pi_can pg_can pss_can (hs X.env)) fun X c W tk F σ H hh D m => by
    refine hi.run X c F σ H hh _ fun J F1 H1 e1 h1 fd => ?_
    refine ⟨fun i mm σ' H' => ∃ s F', mm = xs.length - i ∧ i ≤ xs.length ∧ forL f (xs.take i) s0 = .nx s ∧ Gw F1 F' ∧ Hold F' (Γ1 s) (O1 s) σ' H', ⟨xs.length, s0, F1, rfl, Nat.zero_le _, rfl, Gw.refl _, h1.fr.le l0, o0 ▸ h1.ho⟩, ?_⟩
    rintro i mm σ' H' ⟨s, F', rfl, hil, hf, e2, h2⟩
    by_cases hlt : i < xs.length
    · refine .inr ⟨?_, ?_⟩
      · have hd : (xs.map df)[i]? = some (df xs[i]) := by rw [List.getElem?_map, List.getElem?_eq_getElem hlt]; rfl
        exact (fd.item i _ hd F' (O1 s) H' (hP s) e2 h2.ho).1
      · have hd : (xs.map df)[i]? = some (df xs[i]) := by rw [List.getElem?_map, List.getElem?_eq_getElem hlt]; rfl
        have hsplit : xs = xs.take i ++ xs[i] :: xs.drop (i + 1) := by
          have a := List.take_append_drop i xs
          rw [List.drop_eq_getElem_cons hlt] at a
          exact a.symm
        refine ⟨fun σ3 H3 => ∃ s3 F3, f s xs[i] = .nx s3 ∧ Gw F1 F3 ∧ Hold F3 (Γ1 s3) (O1 s3) σ3 H3, ?_, fun x H3 hy => ?_⟩
        · rintro σ3 H3 ⟨s3, F3, e3, x3, h3⟩
          refine ⟨xs.length - (i + 1), by omega, s3, F3, rfl, hlt, ?_, x3, h3⟩
          have a : xs.take (i + 1) = xs.take i ++ xs[i] :: [] := List.take_succ_eq_append_getElem hlt
          rw [a, forL_snoc hf, e3]
          rfl
        · obtain ⟨F3, e3, h3, d3⟩ := (fd.item i _ hd F' (O1 s) H' (hP s) e2 h2.ho).2 x H3 hy
          refine (hg s xs[i]).run X c F3 (O1 s) σ' H3 x ⟨h2.fr.mono e3, h3⟩ d3 _ fun σ4 h4 _ => ?_
          refine (hb s xs[i] (xs.take i) (xs.drop (i + 1)) hsplit hf).run X c W tk F3 σ4 H3 h4 _ ?_
          have me : forL f xs s0 = (match f s xs[i] with
            | .nx s' => forL f (xs.drop (i + 1)) s'
            | .rt r => .rt r
            | .ex e => .ex e) := by
            have a := forL_snoc (f := f) (x := xs[i]) (post := xs.drop (i + 1)) hf
            rw [← hsplit] at a
            exact a
          have m1 := meet.mono ((e1.trans e2).trans e3) m
          rw [me] at m1
          cases ef : f s xs[i] with
          | nx s' =>
            intro σ5 H5 q
            obtain ⟨F5, e5, h5⟩ := q
            exact ⟨s', F5, rfl, (e2.trans e3).trans e5, h5⟩
          | rt r =>
            rw [ef] at m1
            exact m1
          | ex r =>
            rw [ef] at m1
            exact m1
    · have hi' : i = xs.length := by omega
      subst hi'
      refine .inl ⟨?_, ?_⟩
      · have a := fd.stop F' (O1 s) H' (hP s) e2 h2.ho
        rw [List.length_map] at a
        exact a
      · rw [List.take_length] at hf
        refine (hr s hf).run X c W tk F' σ' H' h2 D ?_
        have m1 := meet.mono (e1.trans e2) m
        rw [hf] at m1
        exact m1
theorem ss_fold [Calm C] {df : α → D} {xs : List α} {f : S1 → α → S1} {s0 : S1} {g : S1 → B} (ι : B → Out S R) (Γ1 : S1 → Fr) (Γ2 : S1 → α → Fr) (O1 : S1 → Own) (hi : EI G C tg it Γ O P (xs.map df)) (l0 : FrLe Γ (Γ1 s0)) (o0 : O = O1 s0) (hP : ∀ s, P (O1 s))
    (hg : ∀ s x, TJ G C tg (df x) (Γ1 s) (Γ2 s x) is)
    (hb : ∀ s x pre post, xs = pre ++ x :: post → s = pre.foldl f s0 → SS G C body (Γ2 s x) (O1 s) (k.to fun s => SD.of (Γ1 s) (O1 s)) (.nx (f s x)))
    (hr : ∀ s, s = xs.foldl f s0 → SS G C ss (Γ1 s) (O1 s) k (ι (g s))) (hs : ∀ env x, foldedSetIterable it env x = pure x) : SS G C (.For tg it body [] pos :: ss) Γ O k (ι (lt (xs.foldl f s0) g)) := by
  have a := ss_for (ss := ss) (pos := pos) (k := k) (g := fun s => ι (g s)) (f := fun s x => .nx (f s x)) Γ1 Γ2 O1 hi l0 o0 hP hg (fun s x pre post e h => hb s x pre post e (by rw [forL_fold] at h; cases h; rfl)) (fun s h => hr s (by rw [forL_fold] at h; cases h; rfl)) hs
  rw [forL_fold] at a
  exact a
theorem ei_list (h : E G C it Γ O (dLst G.K ds)) : EI G C tg it Γ O anyO ds := .mk fun X c F σ H hh R q =>
  wi_of (pi_list pe_can) (h.run X c F σ H hh _ fun F1 H1 v e1 h1 d1 => by
    obtain ⟨a, vs, rfl, hs, ha⟩ := d1
    have hs' : ∀ {F' O' H'}, Gw F1 F' → HoldO F' O' H' → SqL X.K H' a vs := fun e h => by rw [c.K]; exact gw_l (e.trans h.ex) hs.sq
    refine ⟨a, rfl, ⟨vs, hs' (Gw.refl _) h1.ho⟩, q _ F1 H1 e1 h1 ⟨fun i d hd F O H _ e h => ?_, fun F O H _ e h => ?_⟩⟩
    · obtain ⟨v, hv, dv⟩ := AllD.get ha hd
      refine ⟨⟨vs, v, hs' e h, hv⟩, fun x H' hy => ?_⟩
      obtain ⟨rfl, hx⟩ := hy
      have z := hx vs (hs' e h)
      rw [hv] at z
      cases z
      exact ⟨F, Gw.refl F, h, d.mono e dv⟩
    · exact ⟨vs, hs' e h, by rw [AllD.length ha]; exact Nat.le_refl _⟩)
theorem ei_tup (h : E G C it Γ O (dTup G.K ds)) : EI G C tg it Γ O anyO ds := .mk fun X c F σ H hh R q =>
  wi_of (pi_tup pe_can) (h.run X c F σ H hh _ fun F1 H1 v e1 h1 d1 => by
    obtain ⟨a, vs, rfl, hs, ha⟩ := d1
    have hs' : ∀ {F' O' H'}, Gw F1 F' → HoldO F' O' H' → SqT X.K H' a vs := fun e h => by rw [c.K]; exact gw_t (e.trans h.ex) hs
    refine ⟨a, rfl, ⟨vs, hs' (Gw.refl _) h1.ho⟩, q _ F1 H1 e1 h1 ⟨fun i d hd F O H _ e h => ?_, fun F O H _ e h => ?_⟩⟩
    · obtain ⟨v, hv, dv⟩ := AllD.get ha hd
      refine ⟨⟨vs, v, hs' e h, hv⟩, fun x H' hy => ?_⟩
      obtain ⟨rfl, hx⟩ := hy
      have z := hx vs (hs' e h)
      rw [hv] at z
      cases z
      exact ⟨F, Gw.refl F, h, d.mono e dv⟩
    · exact ⟨vs, hs' e h, by rw [AllD.length ha]; exact Nat.le_refl _⟩)
def signs (z : Str) : List Str := z.cps.toList.map fun c => ⟨#[c]⟩
theorem ei_str {z : Str} (h : E G C it Γ O (dS z)) : EI G C tg it Γ O anyO ((signs z).map dS) := .mk fun X c F σ H hh R q =>
  wi_of (pi_str pe_can) (h.run X c F σ H hh _ fun F1 H1 v e1 h1 d1 => by
    refine ⟨z, d1.1, q _ F1 H1 e1 h1 ⟨fun i d hd F O H _ e h => ?_, fun F O H _ e h => ?_⟩⟩
    · unfold signs at hd
      rw [List.getElem?_map, List.getElem?_map, Array.getElem?_toList] at hd
      cases hz : z.cps[i]? with
      | none => rw [hz] at hd; cases hd
      | some cc =>
        rw [hz] at hd
        cases hd
        refine ⟨(Array.getElem?_eq_some_iff.mp hz).1, fun x H' hy => ?_⟩
        obtain ⟨rfl, c', hc', rfl⟩ := hy
        rw [hz] at hc'
        cases hc'
        exact ⟨F, Gw.refl F, h, rfl, okS_sign d1.2 (Array.mem_toList_iff.mpr (Array.mem_of_getElem? hz))⟩
    · show z.cps.size ≤ _
      unfold signs
      rw [List.length_map, List.length_map, Array.length_toList]
      exact Nat.le_refl _)
def upto (n : Int) : List Int := (List.range n.toNat).map fun i => ((i : Nat) : Int)
def range2 (a b : Int) : List Int := (List.range (b - a).toNat).map fun i => a + ((i : Nat) : Int)
theorem ei_range {a : Expr} {n : Int} (g : Glo C "range") (hm : G.mg "range" = none) (h : E G C a Γ O (dI n)) (hn : -(2 ^ 62) ≤ n ∧ n < 2 ^ 62) (hs : ∀ env, starEach [a] env = [(false, eval a env)]) : EI G C tg (.Call (.Name "range" p1) [a] [] pos) Γ O anyO ((upto n).map dI) := .mk fun X c F σ H hh R q =>
  wi_of (pi_range1 (c.gl g) (by rw [c.mg]; exact hm) (pa_cons pe_can pa_nil (by rw [hs]; rfl)) (hs X.env)) (h.run X c F σ H hh _ fun F1 H1 v e1 h1 d1 => by
    refine ⟨n, by rw [show v = .int n from d1], hn.1, hn.2, q _ F1 H1 e1 h1 ⟨fun i d hd F O H _ e h => ?_, fun F O H _ e h => ?_⟩⟩
    · unfold upto at hd
      rw [List.getElem?_map, List.getElem?_map] at hd
      by_cases hi : i < n.toNat
      · rw [List.getElem?_range hi] at hd
        cases hd
        refine ⟨hi, fun x H' hy => ?_⟩
        obtain ⟨rfl, rfl⟩ := hy
        exact ⟨F, Gw.refl F, h, by rw [Int.zero_add]; rfl⟩
      · rw [List.getElem?_eq_none (by rw [List.length_range]; omega)] at hd
        cases hd
    · show n.toNat ≤ _
      unfold upto
      rw [List.length_map, List.length_map, List.length_range]
      exact Nat.le_refl _)
end
end Kn
namespace Kn
open PySem PySem.Spec L2
def nth {α : Type} [Inhabited α] (xs : List α) (i : Int) : α := (atI xs i).getD default
def inR (n : Nat) (i : Int) : Prop := -(n : Int) ≤ i ∧ i < n
theorem ixN_some {n : Nat} {i : Int} (h : inR n i) : ∃ j, ixN n i = some j ∧ j < n := by
  obtain ⟨h1, h2⟩ := h
  unfold ixN
  by_cases h0 : 0 ≤ i
  · rw [if_pos h0, if_pos h2]
    exact ⟨_, rfl, by omega⟩
  · rw [if_neg h0, if_pos h1]
    exact ⟨_, rfl, by omega⟩
theorem atI_nth {α : Type} [Inhabited α] {xs : List α} {i : Int} (h : inR xs.length i) : atI xs i = some (nth xs i) := by
  obtain ⟨j, e, hj⟩ := ixN_some h
  have a : atI xs i = some xs[j] := by
    unfold atI
    rw [e]
    exact List.getElem?_eq_getElem hj
  unfold nth
  rw [a]
  rfl
theorem nth_nat {α : Type} [Inhabited α] {xs : List α} {i : Int} (h0 : 0 ≤ i) (h : i < xs.length) : nth xs i = xs[i.toNat]'(by omega) := by
  unfold nth atI ixN
  rw [if_pos h0, if_pos h]
  show ((xs[i.toNat]?).getD default) = _
  rw [List.getElem?_eq_getElem (by omega)]
  rfl
theorem atI_map {α β : Type} (f : α → β) (xs : List α) (i : Int) : atI (xs.map f) i = (atI xs i).map f := by
  unfold atI
  rw [List.length_map]
  cases ixN xs.length i with
  | none => rfl
  | some j => exact List.getElem?_map ..
theorem AllD.atI {F : Hp} {ds : List D} {vs : List V} {i : Int} {d : D} (h : AllD F ds vs) (e : L2.atI ds i = some d) : ∃ v, L2.atI vs i = some v ∧ d.ok F v := by
  unfold L2.atI at e ⊢
  rw [AllD.length h]
  cases q : ixN ds.length i with
  | none => rw [q] at e; cases e
  | some j => rw [q] at e; exact AllD.get h e
def cut {α : Type} (xs : List α) (lo hi : Option Int) : List α := (xs.drop (HT.sIx xs.length 0 lo)).take (HT.sIx xs.length xs.length hi - HT.sIx xs.length 0 lo)
theorem cut_map {α β : Type} (f : α → β) (xs : List α) (lo hi : Option Int) : cut (xs.map f) lo hi = (cut xs lo hi).map f := by
  unfold cut
  rw [List.length_map, List.map_take, List.map_drop]
theorem AllD.cut {F : Hp} {ds : List D} {vs : List V} (lo hi : Option Int) (h : AllD F ds vs) : AllD F (cut ds lo hi) (cutV vs lo hi) := by
  unfold Kn.cut cutV
  rw [AllD.length h]
  exact AllD.take _ (AllD.drop _ h)
structure EO (G : Cfg) (C : Sc) (e : Option Expr) (Γ : Fr) (O : Own) (i : Option Int) : Prop where
  run : ∀ X, InC G C X → ∃ t, PO X e t ∧ ∀ (F : Hp) (σ : L2.St) (H : Hp), Hold F Γ O σ H → ∀ Q : Option Int → Hp → Prop, (∀ F' H', Gw F F' → Hold F' Γ O σ H' → Q i H') → t σ H Q
structure CalR (G : Cfg) (C : Sc) (f : Value) (O : Own) (ds : List D) (d : D) : Prop where
  ex : ∀ X, InC G C X → ∃ r, CallR X f r ∧ RCD r O ds d
structure CalN (G : Cfg) (C : Sc) (f : Value) (O : Own) (ds : List D) (od : OD) : Prop where
  ex : ∀ X, InC G C X → ∃ r, CallR X f r ∧ RCN r O ds od
section
variable {G : Cfg} {C : Sc} {Γ : Fr} {O : Own} {e a b c : Expr} {es : List Expr} {d da db dc : D} {ds : List D} {pos p1 p2 p3 : Pos} {x : Str} {α : Type} {f : α → D}
theorem eo_none : EO G C none Γ O none := .mk fun X c => ⟨_, po_none, fun F σ H hh Q q => q F H (Gw.refl F) hh⟩
theorem eo_some {i : Int} (h : E G C e Γ O (dI i)) : EO G C (some e) Γ O (some i) := .mk fun X c => ⟨_, po_some pe_can, fun F σ H hh Q q => h.run X c F σ H hh _ fun F1 H1 v e1 h1 d1 => ⟨i, d1, q F1 H1 e1 h1⟩⟩
theorem e_ix {r : R2} (hr : ∀ X, InC G C X → IxR X r) (h : R2D r O da db d) (ha : E G C a Γ O da) (hb : E G C b Γ O db) (hs : PlainIx b) : E G C (.Subscript a b pos) Γ O d := .mk fun X c F σ H hh Q q => by
  refine we_of (pe_ix (hr X c) pe_can pe_can hs) (ha.run X c F σ H hh _ fun F1 H1 v e1 h1 d1 => ?_)
  refine hb.run X c F1 σ H1 h1 _ fun F2 H2 u e2 h2 d2 => ?_
  exact h F2 H2 v u h2.ho (da.mono e2 d1) d2 _ fun F3 H3 z e3 h3 d3 => q F3 H3 z ((e1.trans e2).trans e3) (h2.mono e3 h3) d3
theorem e_ixL {i : Int} (hi : atI ds i = some d) (ha : E G C a Γ O (dLst G.K ds)) (hb : E G C b Γ O (dI i)) (hs : PlainIx b) : E G C (.Subscript a b pos) Γ O d :=
  e_ix (r := rIxL G.K) (fun X c => c.K ▸ ix_list) (fun F H v u hh h1 h2 Q q => by
    obtain ⟨p, vs, rfl, hs, ha⟩ := h1
    obtain ⟨w, hw, dw⟩ := AllD.atI ha hi
    exact ⟨p, vs, i, w, rfl, h2, gw_l hh.ex hs.sq, hw, q F H w (Gw.refl F) hh dw⟩) ha hb hs
theorem e_ixT {i : Int} (hi : atI ds i = some d) (ha : E G C a Γ O (dTup G.K ds)) (hb : E G C b Γ O (dI i)) (hs : PlainIx b) : E G C (.Subscript a b pos) Γ O d :=
  e_ix (r := rIxT G.K) (fun X c => c.K ▸ ix_tup) (fun F H v u hh h1 h2 Q q => by
    obtain ⟨p, vs, rfl, hs, ha⟩ := h1
    obtain ⟨w, hw, dw⟩ := AllD.atI ha hi
    exact ⟨p, vs, i, w, rfl, h2, gw_t hh.ex hs, hw, q F H w (Gw.refl F) hh dw⟩) ha hb hs
theorem e_nthL [Inhabited α] {xs : List α} {i : Int} (ha : E G C a Γ O (dLst G.K (xs.map f))) (hb : E G C b Γ O (dI i)) (hi : inR xs.length i) (hs : PlainIx b) : E G C (.Subscript a b pos) Γ O (f (nth xs i)) :=
  e_ixL (by rw [atI_map, atI_nth hi]; rfl) ha hb hs
def signAt (z : Str) (i : Int) : Str := ⟨#[nth z.cps.toList i]⟩
theorem nth_mem {α : Type} [Inhabited α] {xs : List α} {i : Int} (h : inR xs.length i) : nth xs i ∈ xs := by
  have e := atI_nth h
  unfold atI at e
  cases q : ixN xs.length i with
  | none => rw [q] at e; cases e
  | some j => rw [q] at e; exact List.mem_of_getElem? e
theorem okS_signAt {z : Str} {i : Int} (h : okS z) (hi : inR z.length i) : okS (signAt z i) := okS_sign h (nth_mem (by rw [Array.length_toList]; exact hi))
theorem okS_cut {z : Str} {i j : Option Int} (h : okS z) : okS (cutS z i j) := by
  refine ⟨strOk_iff.mpr fun c hc => ?_, Nat.le_trans (cutS_length z i j) h.2⟩
  unfold cutS at hc
  have hc2 : c ∈ (z.cps.toList.drop (HT.sIx z.length 0 i)).take (HT.sIx z.length z.length j - HT.sIx z.length 0 i) := hc
  exact strOk_iff.mp h.1 c (List.mem_of_mem_drop (List.mem_of_mem_take hc2))
theorem e_ixS {z : Str} {i : Int} (ha : E G C a Γ O (dS z)) (hb : E G C b Γ O (dI i)) (hi : inR z.length i) (hs : PlainIx b) : E G C (.Subscript a b pos) Γ O (dS (signAt z i)) :=
  e_ix (r := rIxS) (da := dS z) (db := dI i) (fun X c => ix_str) (fun F H v u hh h1 h2 Q q => ⟨z, i, nth z.cps.toList i, h1.1, h2, h1.2.2, atI_nth (by rw [Array.length_toList]; exact hi), q F H _ (Gw.refl F) hh ⟨rfl, okS_signAt h1.2 hi⟩⟩) ha hb hs
theorem en_sl {lo hi : Option Expr} {i j : Option Int} (ha : E G C a Γ O (dLst G.K ds)) (hl : EO G C lo Γ O i) (hh : EO G C hi Γ O j) : EN G C (.Subscript a (.Slice lo hi none p2) pos) Γ O (oLst (cut ds i j)) := .mk fun X c F σ H h0 Q q => by
  obtain ⟨tl, pl, ql⟩ := hl.run X c
  obtain ⟨th, ph, qh⟩ := hh.run X c
  refine we_of (pe_slice sl_list pe_can pl ph) (ha.run X c F σ H h0 _ fun F1 H1 v e1 h1 d1 => ?_)
  refine ql F1 σ H1 h1 _ fun F2 H2 e2 h2 => qh F2 σ H2 h2 _ fun F3 H3 e3 h3 => ?_
  obtain ⟨p, vs, rfl, hs, ha⟩ := (dLst G.K ds).mono (e2.trans e3) d1
  exact ⟨p, vs, rfl, by rw [c.K]; exact gw_l h3.ho.ex hs.sq, fun r hr => q F3 _ r ((e1.trans e2).trans e3) ⟨h3.fr, h3.ho.own hr ⟨_, rfl, AllD.cut i j ha⟩⟩⟩
theorem e_slS {z : Str} {lo hi : Option Expr} {i j : Option Int} (ha : E G C a Γ O (dS z)) (hl : EO G C lo Γ O i) (hh : EO G C hi Γ O j) : E G C (.Subscript a (.Slice lo hi none p2) pos) Γ O (dS (cutS z i j)) := .mk fun X c F σ H h0 Q q => by
  obtain ⟨tl, pl, ql⟩ := hl.run X c
  obtain ⟨th, ph, qh⟩ := hh.run X c
  refine we_of (pe_slice sl_str pe_can pl ph) (ha.run X c F σ H h0 _ fun F1 H1 v e1 h1 d1 => ?_)
  refine ql F1 σ H1 h1 _ fun F2 H2 e2 h2 => qh F2 σ H2 h2 _ fun F3 H3 e3 h3 => ?_
  exact ⟨z, d1.1, d1.2.2, q F3 H3 _ ((e1.trans e2).trans e3) h3 ⟨rfl, okS_cut d1.2⟩⟩
theorem en_cut {xs : List α} {lo hi : Option Expr} {i j : Option Int} (ha : E G C a Γ O (dLst G.K (xs.map f))) (hl : EO G C lo Γ O i) (hh : EO G C hi Γ O j) : EN G C (.Subscript a (.Slice lo hi none p2) pos) Γ O (oLst ((cut xs i j).map f)) := by
  rw [← cut_map]; exact en_sl ha hl hh
def rCatL (K : PySem.W.Frag) : R2 := fun x y H Q => ∃ l b xs zs, x = .ref l ∧ y = .ref b ∧ LsA K H l xs ∧ LsA K H b zs ∧ xs.length + zs.length ≤ sizeLine ∧ ∀ p, H p = none → Q (.ref p) (upd H p (.lst (xs ++ zs)))
theorem op_catL {X : Cx} : OpR X (binaryOp .Add) (rCatL X.K) := by
  intro pins s σ H x y v u Q I rx ry h
  obtain ⟨l, b, xs, zs, rfl, rfl, h1, h2, hz, q⟩ := h
  cases rx
  cases ry
  obtain ⟨its, n, r, e, _⟩ := h1.get I
  obtain ⟨its2, n2, r2, e2, _⟩ := h2.get I
  have l1 := r.length
  have l2 := r2.length
  refine PySem.P.add_list e e2 ?_ (by rw [List.size_toArray, List.size_toArray]; omega)
  have ea : its.toArray ++ its2.toArray = (its ++ its2).toArray := by simp
  rw [ea]
  exact ⟨.ref _, _, I.lnew (t' := s.toks) (r.append r2) (by rw [List.length_append]; omega), rfl, q _ I.fresh⟩
theorem en_catD {ds es : List D} (ha : E G C a Γ O (dLst G.K ds)) (hb : E G C b Γ O (dLst G.K es)) (hl : ds.length + es.length ≤ sizeLine) : EN G C (.BinOp a .Add b pos) Γ O (oLst (ds ++ es)) := .mk fun X c F σ H hh Q q => by
  refine we_of (pe_op op_catL pe_can pe_can) (ha.run X c F σ H hh _ fun F1 H1 v e1 h1 d1 => ?_)
  refine hb.run X c F1 σ H1 h1 _ fun F2 H2 u e2 h2 d2 => ?_
  obtain ⟨p, vs, rfl, hs, h3⟩ := (dLst G.K ds).mono e2 d1
  obtain ⟨p', us, rfl, hs', h4⟩ := d2
  refine ⟨p, p', vs, us, rfl, rfl, by rw [c.K]; exact hs.mono h2.ho.ex, by rw [c.K]; exact hs'.mono h2.ho.ex, by rw [AllD.length h3, AllD.length h4]; exact hl, fun r hr => ?_⟩
  exact q F2 _ r (e1.trans e2) ⟨h2.fr, h2.ho.own hr ⟨_, rfl, AllD.append h3 h4⟩⟩
theorem en_cat {xs ys : List α} (ha : E G C a Γ O (dLst G.K (xs.map f))) (hb : E G C b Γ O (dLst G.K (ys.map f))) (hl : xs.length + ys.length ≤ sizeLine) : EN G C (.BinOp a .Add b pos) Γ O (oLst ((xs ++ ys).map f)) := by
  rw [List.map_append]
  exact en_catD ha hb (by rw [List.length_map, List.length_map]; exact hl)
theorem c_inS {w : V} {xs : List V} (h1 : flatV w = true) (h2 : xs.all flatV = true) : CmpR G C .In O (dV w) (dLst G.K (xs.map dV)) (inV w xs) := cmp_of (fun X c => c.K ▸ op_in_seq) fun F H v u hh e1 h Q q => by
  obtain ⟨p, vs, rfl, hs, ha⟩ := h
  have ev := AllD.dV ha
  subst ev
  cases e1
  exact ⟨p, vs, rfl, .inl (gw_l hh.ex hs.sq), h1, h2, q F H _ (Gw.refl F) hh rfl⟩
theorem c_ninS {w : V} {xs : List V} (h1 : flatV w = true) (h2 : xs.all flatV = true) : CmpR G C .NotIn O (dV w) (dLst G.K (xs.map dV)) (!inV w xs) := cmp_of (fun X c => c.K ▸ op_notIn_seq) fun F H v u hh e1 h Q q => by
  obtain ⟨p, vs, rfl, hs, ha⟩ := h
  have ev := AllD.dV ha
  subst ev
  cases e1
  exact ⟨p, vs, rfl, .inl (gw_l hh.ex hs.sq), h1, h2, q F H _ (Gw.refl F) hh rfl⟩
theorem c_inT {w : V} {xs : List V} (h1 : flatV w = true) (h2 : xs.all flatV = true) : CmpR G C .In O (dV w) (dTup G.K (xs.map dV)) (inV w xs) := cmp_of (fun X c => c.K ▸ op_in_seq) fun F H v u hh e1 h Q q => by
  obtain ⟨p, vs, rfl, hs, ha⟩ := h
  have ev := AllD.dV ha
  subst ev
  cases e1
  exact ⟨p, vs, rfl, .inr (gw_t hh.ex hs), h1, h2, q F H _ (Gw.refl F) hh rfl⟩
theorem c_ninSign {c : Nat} {z : Str} : CmpR G C .NotIn O (dS ⟨#[c]⟩) (dS z) (!decide (c ∈ z.cps.toList)) := cmp_of (fun _ _ => op_notIn_sign) fun F H v u hh e1 e2 Q q => ⟨c, z, e1.1, e2.1, q F H _ (Gw.refl F) hh rfl⟩
theorem e_callB {id : String} (hc : CalR G C (.builtin id) O ds d) (g : Glo C x) (hm : G.mg x = none) (hv : bootBuiltins x = some (.builtin id)) (ha : A G C (e :: es) Γ O ds) (hs : ∀ env, starEach (e :: es) env = (false, eval e env) :: starEach es env) : E G C (.Call (.Name x p1) (e :: es) [] pos) Γ O d := .mk fun X c F σ H hh Q q => by
  obtain ⟨r, hr, hd⟩ := hc.ex X c
  refine we_of (pe_callB hr (c.gl g) (by rw [c.mg]; exact hm) hv pa_can g.2.2 g.2.1 (hs X.env) ?_) (ha.run X c F σ H hh _ fun F1 H1 vs e1 h1 d1 => hd F1 H1 vs h1.ho d1 _ fun F2 H2 z e2 h2 d2 => q F2 H2 z (e1.trans e2) (h1.mono e2 h2) d2)
  have a := ha.bt pos X.env
  rw [hs] at a
  unfold backTo at a ⊢
  rw [List.map_cons, List.any_cons] at a
  exact (Bool.or_eq_false_iff.mp a).2
theorem e_callT {T : String} (hc : CalR G C (.type T) O ds d) (g : Glo C x) (hm : G.mg x = none) (hv : bootBuiltins x = some (.type T)) (ha : A G C (e :: es) Γ O ds) (hs : ∀ env, starEach (e :: es) env = (false, eval e env) :: starEach es env) : E G C (.Call (.Name x p1) (e :: es) [] pos) Γ O d := .mk fun X c F σ H hh Q q => by
  obtain ⟨r, hr, hd⟩ := hc.ex X c
  refine we_of (pe_callTy hr (c.gl g) (by rw [c.mg]; exact hm) hv pa_can g.2.2 g.2.1 (hs X.env) ?_) (ha.run X c F σ H hh _ fun F1 H1 vs e1 h1 d1 => hd F1 H1 vs h1.ho d1 _ fun F2 H2 z e2 h2 d2 => q F2 H2 z (e1.trans e2) (h1.mono e2 h2) d2)
  have a := ha.bt pos X.env
  rw [hs] at a
  unfold backTo at a ⊢
  rw [List.map_cons, List.any_cons] at a
  exact (Bool.or_eq_false_iff.mp a).2
theorem en_callT {T : String} {od : OD} (hc : CalN G C (.type T) O ds od) (g : Glo C x) (hm : G.mg x = none) (hv : bootBuiltins x = some (.type T)) (ha : A G C (e :: es) Γ O ds) (hs : ∀ env, starEach (e :: es) env = (false, eval e env) :: starEach es env) : EN G C (.Call (.Name x p1) (e :: es) [] pos) Γ O od := .mk fun X c F σ H hh Q q => by
  obtain ⟨r, hr, hd⟩ := hc.ex X c
  refine we_of (pe_callTy hr (c.gl g) (by rw [c.mg]; exact hm) hv pa_can g.2.2 g.2.1 (hs X.env) ?_) (ha.run X c F σ H hh _ fun F1 H1 vs e1 h1 d1 => hd F1 H1 vs h1.ho d1 _ fun F2 H2 z e2 h2 => q F2 H2 z (e1.trans e2) ⟨h1.fr.mono e2, h2⟩)
  have a := ha.bt pos X.env
  rw [hs] at a
  unfold backTo at a ⊢
  rw [List.map_cons, List.any_cons] at a
  exact (Bool.or_eq_false_iff.mp a).2
theorem all1 {F : Hp} {vs : List V} (h : AllD F [d] vs) : ∃ v, vs = [v] ∧ d.ok F v := by
  match vs, h with
  | [v], h => exact ⟨v, rfl, h.1⟩
  | [], h => exact h.elim
  | _ :: _ :: _, h => exact h.2.elim
theorem all2 {F : Hp} {vs : List V} (h : AllD F [d, da] vs) : ∃ v u, vs = [v, u] ∧ d.ok F v ∧ da.ok F u := by
  match vs, h with
  | [v, u], h => exact ⟨v, u, rfl, h.1, h.2.1⟩
  | [], h => exact h.elim
  | [_], h => exact h.2.elim
  | _ :: _ :: _ :: _, h => exact h.2.2.elim
theorem k_lenL : CalR G C (.builtin "len") O [dLst G.K ds] (dI ds.length) := ⟨fun X c => ⟨_, call_len_seq, fun F H vs hh h Q q => by
  obtain ⟨v, rfl, p, us, rfl, hs, ha⟩ := all1 h
  refine ⟨p, us, rfl, .inl (by rw [c.K]; exact gw_l hh.ex hs.sq), ?_⟩
  rw [AllD.length ha]
  exact q F H _ (Gw.refl F) hh rfl⟩⟩
theorem k_lenT : CalR G C (.builtin "len") O [dTup G.K ds] (dI ds.length) := ⟨fun X c => ⟨_, call_len_seq, fun F H vs hh h Q q => by
  obtain ⟨v, rfl, p, us, rfl, hs, ha⟩ := all1 h
  refine ⟨p, us, rfl, .inr (by rw [c.K]; exact gw_t hh.ex hs), ?_⟩
  rw [AllD.length ha]
  exact q F H _ (Gw.refl F) hh rfl⟩⟩
theorem k_lenO {k : Nat} {p : Addr} (hk : O[k]? = some (p, oLst ds)) : CalR G C (.builtin "len") O [dP p] (dI ds.length) := ⟨fun X c => ⟨_, call_len_seq, fun F H vs hh h Q q => by
  obtain ⟨v, rfl, hv⟩ := all1 h
  obtain ⟨_, o, hp, us, rfl, ha⟩ := hh.at hk
  refine ⟨p, us, by rw [show v = .ref p from hv], .inl (SqL.of hp), ?_⟩
  rw [AllD.length ha]
  exact q F H _ (Gw.refl F) hh rfl⟩⟩
theorem k_lenS {z : Str} : CalR G C (.builtin "len") O [dS z] (dI z.length) := ⟨fun X c => ⟨_, call_len_str, fun F H vs hh h Q q => by
  obtain ⟨v, rfl, hv⟩ := all1 h
  exact ⟨z, by rw [hv.1], hv.2.2, q F H _ (Gw.refl F) hh rfl⟩⟩⟩
theorem k_max [Calm C] {i j : Int} : CalR G C (.builtin "max") O [dI i, dI j] (dI (if j > i then j else i)) := ⟨fun X c => ⟨_, call_max2 c.cm, fun F H vs hh h Q q => by
  obtain ⟨v, u, rfl, h1, h2⟩ := all2 h
  exact ⟨i, j, by rw [show v = .int i from h1, show u = .int j from h2], q F H _ (Gw.refl F) hh rfl⟩⟩⟩
theorem k_min [Calm C] {i j : Int} : CalR G C (.builtin "min") O [dI i, dI j] (dI (if j < i then j else i)) := ⟨fun X c => ⟨_, call_min2 c.cm, fun F H vs hh h Q q => by
  obtain ⟨v, u, rfl, h1, h2⟩ := all2 h
  exact ⟨i, j, by rw [show v = .int i from h1, show u = .int j from h2], q F H _ (Gw.refl F) hh rfl⟩⟩⟩
theorem k_intB {k : Bool} : CalR G C (.type "int") O [dB k] (dI (if k then 1 else 0)) := ⟨fun X c => ⟨_, call_int1, fun F H vs hh h Q q => by
  obtain ⟨v, rfl, h1⟩ := all1 h
  exact .inr ⟨k, by rw [show v = .bl k from h1], q F H _ (Gw.refl F) hh rfl⟩⟩⟩
theorem k_listL : CalN G C (.type "list") O [dLst G.K ds] (oLst ds) := ⟨fun X c => ⟨_, call_list_of, fun F H vs hh h Q q => by
  obtain ⟨v, rfl, p, us, rfl, hs, ha⟩ := all1 h
  exact ⟨p, us, rfl, .inl (by rw [c.K]; exact gw_l hh.ex hs.sq), fun l hl => q F _ l (Gw.refl F) (hh.own hl ⟨us, rfl, ha⟩)⟩⟩⟩
theorem k_tupL : CalR G C (.type "tuple") O [dLst G.K ds] (dTup G.K ds) := ⟨fun X c => ⟨_, call_tuple_of, fun F H vs hh h Q q => by
  obtain ⟨v, rfl, p, us, rfl, hs, ha⟩ := all1 h
  refine ⟨p, us, rfl, .inl ⟨by rw [c.K]; exact gw_l hh.ex hs.sq, fun l hl => ?_⟩⟩
  obtain ⟨h2, e2⟩ := hh.laid (o := .tup us) hl
  exact q _ _ _ e2 h2 ⟨l, us, rfl, .inl (.inl upd_same), AllD.mono e2 ha⟩⟩⟩
def IsTy (K : PySem.W.Frag) (d : D) (t : String) : Prop := ∀ F H v, Gw F H → d.ok F v → TyX K H v (.type t)
theorem ty_int {K : PySem.W.Frag} {i : Int} : IsTy K (dI i) "int" := fun F H v _ h => (show v = .int i from h) ▸ .base (.int i)
theorem ty_str {K : PySem.W.Frag} {i : Str} : IsTy K (dS i) "str" := fun F H v _ h => h.1 ▸ .base (.str i)
theorem ty_bool {K : PySem.W.Frag} {i : Bool} : IsTy K (dB i) "bool" := fun F H v _ h => (show v = .bl i from h) ▸ .base (.bl i)
theorem ty_none {K : PySem.W.Frag} : IsTy K dN "NoneType" := fun F H v _ h => (show v = .non from h) ▸ .base .non
theorem ty_lst {K : PySem.W.Frag} {ds : List D} : IsTy K (dLst K ds) "list" := fun F H v ex ⟨a, vs, h1, h2, h3⟩ => by
  subst h1
  rcases h2 with (h2 | ⟨o, h2⟩) | ⟨its, n, h2, _⟩
  · exact .base (.lst (ex _ _ h2))
  · exact .base (.frz (ex _ _ h2))
  · exact .kList h2 rfl
theorem ty_tup {K : PySem.W.Frag} {ds : List D} : IsTy K (dTup K ds) "tuple" := fun F H v ex ⟨a, vs, h1, h2, h3⟩ => by
  subst h1
  rcases h2 with (h2 | ⟨o, h2⟩) | ⟨o, its, n, h2, hc, _⟩
  · exact .base (.tup (ex _ _ h2))
  · exact .fTuple (ex _ _ h2)
  · exact .kTuple h2 hc
theorem k_isi {t n : String} {b : Bool} (ht : IsTy G.K d t) (hb : kitB t n = some b) : CalR G C (.builtin "isinstance") O [d, dV (.ty n)] (dB b) := ⟨fun X c => ⟨_, call_isi, fun F H vs hh h Q q => by
  obtain ⟨v, u, rfl, h1, h2⟩ := all2 h
  exact ⟨v, u, _, _, b, rfl, (show u = .ty n from h2) ▸ .ty n, by rw [c.K]; exact ht F H v hh.ex h1, kit_ty hb, q F H _ (Gw.refl F) hh rfl⟩⟩⟩
theorem e_tyname {n : String} (g : Glo C x) (hm : G.mg x = none) (hv : bootBuiltins x = some (.type n)) : E G C (.Name x pos) Γ O (dV (.ty n)) := .mk fun X c F σ H hh Q q =>
  we_of (pe_bltn (v := .ty n) (c.gl g) (by rw [c.mg]; exact hm) hv rfl g.2.2 g.2.1) (q F H _ (Gw.refl F) hh rfl)
end
end Kn
namespace Kn
open PySem PySem.Spec L2
abbrev SpecD := List D → Own → RK → Prop
def spD (S : SpecD) : Sp := fun vs H Q E => ∃ ds O rk F, S ds O rk ∧ HoldO F O H ∧ AllD F ds vs ∧ (∀ v H', rk.ok F v H' → Q v H') ∧ ∀ c d H', rk.xo F c d H' → E c d H'
structure Callee (G : Cfg) (k : Nat) (x : Str) (S : SpecD) : Prop where
  ex : ∃ (f : Addr) (fd : FuncData) (ps : List Str), FnOk G.P G.w G.K G.mg G.base (CX G.P G.w) k f fd ps (spD S) ∧ G.mg x = some (.ref f) ∧ PySem.W.keepIn G.K (.ref f) = true ∧ Binds G.K fd ps []
def fnV (d : R → D) (O : Own) : Ek Empty R := ⟨fun e => e.elim, fun r => RK.val (d r) O, fun _ => XD.no⟩
def fnN (od : R → OD) (O : Own) : Ek Empty R := ⟨fun e => e.elim, fun r => RK.new (od r) O, fun _ => XD.no⟩
def frame0 (N : List Str) (ds : List D) : Fr := ds.map some ++ List.replicate (N.length - ds.length) none
theorem frame_start {F : Hp} {N : List Str} : ∀ {ds : List D} {vs : List V}, AllD F ds vs → FrOk F (frame0 N ds) (L2.start N vs) := fun {ds vs} h => by
  have hl := AllD.length h
  refine ⟨?_, fun i d e => ?_⟩
  · unfold frame0 L2.start
    rw [List.length_append, List.length_append, List.length_map, List.length_map, List.length_replicate, List.length_replicate, hl]
  · unfold frame0 at e
    by_cases hi : i < ds.length
    · rw [List.getElem?_append_left (by rw [List.length_map]; exact hi), List.getElem?_map] at e
      cases q : ds[i]? with
      | none => rw [q] at e; cases e
      | some d' =>
        rw [q] at e
        cases e
        obtain ⟨v, hv, dv⟩ := AllD.get h q
        refine ⟨v, ?_, dv⟩
        unfold L2.start
        rw [List.getElem?_append_left (by rw [List.length_map, hl]; exact hi), List.getElem?_map, hv]
        rfl
    · rw [List.getElem?_append_right (by rw [List.length_map]; omega), List.getElem?_replicate] at e
      split at e <;> cases e
theorem inC_of {CX : CXT} {P : Program} {w : World} {K : PySem.W.Frag} {mg : Str → Option Value} {base : Heap} {N : List Str} {qual : Str} {scope : Scope} {f : Addr} {cd : Value} {A : Around} {outer : List Env} {s : Shared} {H : Hp} {E : XK} {k : Nat}
    (hr : Room k (A.deeper (PyProof.Rows.envOfC qual scope s.heap.objs.size f cd))) : InC ⟨P, w, K, mg, base⟩ ⟨k, N, scope, true, true⟩ (cxOf CX P w K mg base N qual scope f cd A outer s H E) :=
  ⟨rfl, rfl, rfl, rfl, rfl, rfl, rfl, fun _ => rfl, hr.un, hr.dp, fun _ => hr.hd, fun _ => ⟨rfl, rfl⟩, passes_of rfl, fun _ _ => rfl⟩
theorem fn_ok {G : Cfg} {x qual : Str} {params : Arguments} {body : List Stmt} {scope : Scope} {f : Addr} {fd : FuncData} {N ps : List Str} {k : Nat} {S : SpecD} (F : FunD G.K x qual params body scope [] [] f fd) (sc : FnScope N ps scope)
    (len : ∀ ds O rk, S ds O rk → ds.length = ps.length)
    (hb : ∀ ds O rk, S ds O rk → ∃ (S1 R : Type) (ek : Ek S1 R) (r : R), SS G ⟨k, N, scope, true, true⟩ body (frame0 N ds) O ek (.rt r) ∧ ek.rs r = rk) : FnOk G.P G.w G.K G.mg G.base (CX G.P G.w) (k + 1) f fd ps (spD S) := by
  obtain ⟨P, w, K, mg, base⟩ := G
  refine F.ok sc (fun vs H Q E h => ?_) (fun cdv A outer s H vs Q E hr h => ?_)
  · obtain ⟨ds, O, rk, F0, hS, hO, ha, _⟩ := h
    rw [AllD.length ha]
    exact len ds O rk hS
  · obtain ⟨ds, O, rk, F0, hS, hO, ha, hq, hx⟩ := h
    obtain ⟨S1, R, ek, r, hss, hrk⟩ := hb ds O rk hS
    refine ⟨_, pss_can, hss.run _ (inC_of hr) _ (takes_of rfl rfl rfl rfl) F0 _ H ⟨frame_start ha, hO⟩ _ ⟨fun v H' hv => ?_, fun c d σ H' hv => ?_⟩⟩
    · rw [hrk] at hv
      exact hq v H' hv
    · rw [hrk] at hv
      exact hx c d H' hv
theorem callee_of {G : Cfg} {x : Str} {k : Nat} {S : SpecD} {f : Addr} {fd : FuncData} {ps : List Str} (F : FnOk G.P G.w G.K G.mg G.base (CX G.P G.w) k f fd ps (spD S)) (g : G.mg x = some (.ref f)) (kp : PySem.W.keepIn G.K (.ref f) = true) (b : Binds G.K fd ps []) : Callee G k x S := ⟨f, fd, ps, F, g, kp, b⟩
theorem Callee.imp {G : Cfg} {x : Str} {k : Nat} {S S' : SpecD} (c : Callee G k x S) (h : ∀ ds O rk, S' ds O rk → S ds O rk) : Callee G k x S' := by
  obtain ⟨f, fd, ps, F, g, kp, b⟩ := c.ex
  exact ⟨f, fd, ps, F.imp fun vs H Q E ⟨ds, O, rk, F0, q, r⟩ => ⟨ds, O, rk, F0, h _ _ _ q, r⟩, g, kp, b⟩
section
variable {G : Cfg} {C : Sc} {Γ : Fr} {O : Own} {e a b c : Expr} {es : List Expr} {d da db dc : D} {ds : List D} {od : OD} {pos p1 p2 p3 : Pos} {x : Str} {α β : Type} {S : SpecD} {k : Nat}
theorem we_call [Calm C] {rk : RK} (cal : Callee G k x S) (hk : k ≤ C.k) (g : Glo C x) (hS : S ds O rk) (ha : A G C (e :: es) Γ O ds) (hs : ∀ env, starEach (e :: es) env = (false, eval e env) :: starEach es env) {X : Cx} (c : InC G C X) {F : Hp} {σ : L2.St} {H : Hp} (hh : Hold F Γ O σ H) {Q : VK} (q : ∀ F1 v H', Gw F F1 → FrOk F1 Γ σ → rk.ok F1 v H' → Q v H') (hx : rk.NoX := by exact fun _ _ _ _ z => z) : WE X (.Call (.Name x p1) (e :: es) [] pos) σ H Q := by
  obtain ⟨f, fd, ps, Fn, gx, kp, bi⟩ := cal.ex
  have Fn' : FnOk X.prog X.w X.K X.mg X.base (CX X.prog X.w) k f fd ps (spD S) := by rw [c.p, c.w, c.K, c.mg, c.base]; exact Fn
  refine we_of (pe_call (dvs := []) (E := E0) Fn' (c.room.mono hk) (c.gl g) (by rw [c.mg]; exact gx) (by rw [c.K]; exact kp) (by rw [c.K]; exact bi) .nil passL pa_can g.2.1 (hs X.env) ?_) (ha.run X c F σ H hh _ fun F1 H1 vs e1 h1 d1 => ?_)
  · have a := ha.bt pos X.env
    rw [hs] at a
    unfold backTo at a ⊢
    rw [List.map_cons, List.any_cons] at a
    exact (Bool.or_eq_false_iff.mp a).2
  · rw [List.append_nil]
    exact ⟨ds, O, rk, F1, hS, h1.ho, d1, fun v H' hv => q F1 v H' e1 h1.fr hv, fun _ _ _ z => hx _ _ _ _ z⟩
theorem e_call [Calm C] (cal : Callee G k x S) (hk : k ≤ C.k) (g : Glo C x) (hS : S ds O (RK.val d O)) (ha : A G C (e :: es) Γ O ds) (hs : ∀ env, starEach (e :: es) env = (false, eval e env) :: starEach es env) : E G C (.Call (.Name x p1) (e :: es) [] pos) Γ O d := .mk fun X c F σ H hh Q q =>
  we_call cal hk g hS ha hs c hh fun F1 v H' e1 fr ⟨F2, e2, h2, d2⟩ => q F2 H' v (e1.trans e2) ⟨fr.mono e2, h2⟩ d2
def wipeF (Γ : Fr) : List Nat → Fr
  | [] => Γ
  | v :: vs => (wipeF Γ vs).set v none
theorem wipe_fr {F : Hp} {σ : L2.St} (h : FrOk F Γ σ) : ∀ vs : List Nat, FrOk F (wipeF Γ vs) (wipe σ vs)
  | [] => h
  | v :: vs => by
    obtain ⟨h1, h2⟩ := wipe_fr h vs
    refine ⟨by unfold wipeF wipe; rw [List.length_set, List.length_set]; exact h1, fun i d e => ?_⟩
    unfold wipeF at e
    unfold wipe
    by_cases hi : v = i
    · subst hi
      by_cases hv : v < (wipeF Γ vs).length
      · rw [List.getElem?_set_self hv] at e; cases e
      · rw [List.getElem?_eq_none (by rw [List.length_set]; omega)] at e; cases e
    · rw [List.getElem?_set_ne hi] at e ⊢
      exact h2 i d e
theorem wipe_at : ∀ (σ : L2.St) (vs : List Nat) (j : Nat), (wipe σ vs)[j]? = if j ∈ vs then (σ[j]?).map (fun _ => none) else σ[j]?
  | σ, [], j => by rw [if_neg (by simp)]; rfl
  | σ, v :: vs, j => by
    unfold wipe
    have ih := wipe_at σ vs j
    by_cases hv : v = j
    · subst hv
      rw [if_pos List.mem_cons_self]
      by_cases hl : v < (wipe σ vs).length
      · rw [List.getElem?_set_self hl]
        rw [wipe_length] at hl
        rw [List.getElem?_eq_getElem hl]
        rfl
      · rw [List.getElem?_eq_none (by rw [List.length_set]; omega)]
        rw [wipe_length] at hl
        rw [List.getElem?_eq_none (by omega)]
        rfl
    · rw [List.getElem?_set_ne hv, ih]
      by_cases hm : j ∈ vs
      · rw [if_pos hm, if_pos (List.mem_cons_of_mem _ hm)]
      · rw [if_neg hm, if_neg (fun z => (List.mem_cons.mp z).elim (fun e => hv e.symm) hm)]
theorem But.wipe {is vs : List Nat} {σ σ' : L2.St} (b : But is (wipe σ vs) σ') (h : ∀ i ∈ is, i ∈ vs) : L2.wipe σ' vs = L2.wipe σ vs := by
  refine List.ext_getElem? fun j => ?_
  have hl : σ'.length = σ.length := by rw [b.1, wipe_length]
  rw [wipe_at, wipe_at]
  by_cases hj : j ∈ vs
  · rw [if_pos hj, if_pos hj]
    by_cases hlt : j < σ.length
    · rw [List.getElem?_eq_getElem hlt, List.getElem?_eq_getElem (by omega)]
      rfl
    · rw [List.getElem?_eq_none (by omega), List.getElem?_eq_none (by omega)]
  · rw [if_neg hj, if_neg hj, b.2 j fun z => hj (h j z), wipe_at, if_neg hj]
abbrev Sc.blk (C : Sc) (scope : Scope) : Sc := ⟨C.k, C.N, relS scope C.sc, false, C.calm⟩
instance {C : Sc} {scope : Scope} [h : Calm C] : Calm (C.blk scope) := ⟨h.c⟩
theorem InC.blk {X : Cx} (c : InC G C X) (s : Shared) (H : Hp) (scope : Scope) (cl : List (Str × Addr)) (A : Addr) (fp : List Addr) : InC G (C.blk scope) (X.blk s H scope (compEnvC scope cl A X.env) fp) :=
  ⟨c.p, c.w, c.K, c.mg, c.base, c.n, (by show relS scope X.env.scope = relS scope C.sc; rw [c.sc]), c.calm, c.un, c.dp, c.hdl, (fun h => by cases h), PassesOwn.never, (fun h => by cases h)⟩
structure TsJ (G : Cfg) (C : Sc) (ifs : List Expr) (Γ : Fr) (O : Own) (b : Bool) : Prop where
  run : ∀ X, InC G C X → ∀ (F : Hp) (σ : L2.St) (H : Hp), Hold F Γ O σ H → ∀ Q : Bool → Hp → Prop, (∀ F' H', Gw F F' → Hold F' Γ O σ H' → Q b H') → ∀ (pins : List (Addr × Obj)) (s : Shared), Inv X pins σ H s →
  wpAny (model X.prog X.w) X.A (forIn ifs true fun c r =>
    if r = true then do
      let ok ← isTrue c X.env (eval c X.env)
      pure (ForInStep.yield ok)
    else pure (ForInStep.yield r)) (TP X pins σ Q) X.xe s
def WTs (X : Cx) (ifs : List Expr) : TT := fun σ H Q => ∀ (pins : List (Addr × Obj)) (s : Shared), Inv X pins σ H s →
  wpAny (model X.prog X.w) X.A (forIn ifs true fun c r =>
    if r = true then do
      let ok ← isTrue c X.env (eval c X.env)
      pure (ForInStep.yield ok)
    else pure (ForInStep.yield r)) (TP X pins σ Q) X.xe s
theorem ts_nil : TsJ G C [] Γ O true := .mk fun X c F σ H hh Q q pins s I => pts_nil.run pins s σ H Q I (q F H (Gw.refl F) hh)
def BE (X : Cx) (scope : Scope) (e : Expr) : TE := fun σ H Q => ∀ (s : Shared) (H0 : Hp) (A : Addr) (cl : List (Str × Addr)) (fp : List Addr), WE (X.blk s H0 scope (compEnvC scope cl A X.env) fp) e σ H Q
def BT (X : Cx) (scope : Scope) (ifs : List Expr) : TT := fun σ H Q => ∀ (s : Shared) (H0 : Hp) (A : Addr) (cl : List (Str × Addr)) (fp : List Addr), WTs (X.blk s H0 scope (compEnvC scope cl A X.env) fp) ifs σ H Q
def BG (X : Cx) (scope : Scope) (tg : Expr) : TG := fun v σ H Q => ∀ (s : Shared) (H0 : Hp) (A : Addr) (cl : List (Str × Addr)) (fp : List Addr), WG (X.blk s H0 scope (compEnvC scope cl A X.env) fp) tg v σ H Q
structure ENL (G : Cfg) (C : Sc) (e : Expr) (Γ : Fr) (O : Own) (od : OD) : Prop where
  run : ∀ X, InC G C X → ∃ t : TE, PE X e t ∧ (∀ (i : Nat) (y : Str) (py spos : Pos), X.N[i]? = some y → X.env.scope.names.lookup y = some .local → swapsWith e (some (.Name y py)) spos.line X.env = pure true → PS X (.Assign [.Name y py] e spos) (tAsg t (gName i))) ∧
    ∀ (F : Hp) (σ : L2.St) (H : Hp), Hold F Γ O σ H → ∀ Q : VK, (∀ F' H' p, Gw F F' → Hold F' Γ ((p, od) :: O) σ H' → Q (.ref p) H') → t σ H Q
theorem en_enl {e : Expr} {od : OD} (h : ENL G C e Γ O od) : EN G C e Γ O od := .mk fun X c F σ H hh Q q => by
  obtain ⟨t, h1, _, h3⟩ := h.run X c
  exact we_of h1 (h3 F σ H hh Q q)
theorem enl_lcG [Calm C] {df : α → D} {dg : β → D} {xs : List α} {pf : α → Bool} {g : α → β} {tg it elt : Expr} {ifs : List Expr} {scope : Scope} {own : List (Str × Nat)} {is : List Nat} {Γ2 : α → Fr} {P : Own → Prop} (nd : C.N.Nodup) (hi : EI G C tg it Γ O P (xs.map df)) (hP : ∀ q ac, P ((q, oLst ac) :: O)) (ok : BlkOk C.N C.sc scope own)
    (hg : ∀ x, TJ G (C.blk scope) tg (df x) (wipeF Γ (own.map (·.2))) (Γ2 x) is) (his : ∀ i ∈ is, i ∈ own.map (·.2)) (ht : ∀ x, x ∈ xs → ∀ q ac, TsJ G (C.blk scope) ifs (Γ2 x) ((q, oLst ac) :: O) (pf x))
    (he : ∀ x, x ∈ xs → pf x = true → ∀ q ac, E G (C.blk scope) elt (Γ2 x) ((q, oLst ac) :: O) (dg (g x))) (hl : xs.length < 16000000) (hs : ∀ env x, foldedSetIterable it env x = pure x) : ENL G C (.ListComp elt [⟨tg, it, ifs, 0⟩] scope pos) Γ O (oLst (((xs.filter pf).map g).map dg)) := .mk fun X c => by
  have nd' : X.N.Nodup := by rw [c.n]; exact nd
  have ok' : BlkOk X.N X.env.scope scope own := by rw [c.n, c.sc]; exact ok
  refine ⟨_, pe_lc (g := BG X scope tg) (tt := BT X scope ifs) (te := BE X scope elt) c.cm nd' pi_can ok' (fun s H0 A cl fp => ⟨fun pins s1 σ1 H1 v u Q1 I r h => h s H0 A cl fp pins s1 u I r⟩) (fun s H0 A cl fp => ⟨fun pins s1 σ1 H1 Q1 I h => h s H0 A cl fp pins s1 I⟩)
    (fun s H0 A cl fp => ⟨fun pins s1 σ1 H1 Q1 I h => h s H0 A cl fp pins s1 I⟩) (hs X.env), fun i y py spos h1 h2 h3 => ps_setLc c.cm nd' h1 h2 h3 pi_can ok' (fun s H0 A cl fp => ⟨fun pins s1 σ1 H1 v u Q1 I r h => h s H0 A cl fp pins s1 u I r⟩) (fun s H0 A cl fp => ⟨fun pins s1 σ1 H1 Q1 I h => h s H0 A cl fp pins s1 I⟩)
    (fun s H0 A cl fp => ⟨fun pins s1 σ1 H1 Q1 I h => h s H0 A cl fp pins s1 I⟩) (hs X.env), fun F σ H hh Q q => ?_⟩
  refine hi.run X c F σ H hh _ fun J F1 H1 e1 h1 fd => ?_
  intro Dl hD
  refine ⟨fun i mm H' => ∃ F', mm = xs.length - i ∧ i ≤ xs.length ∧ Gw F1 F' ∧ HoldO F' ((Dl, oLst ((((xs.take i).filter pf).map g).map dg)) :: O) H', ⟨xs.length, F1, rfl, Nat.zero_le _, Gw.refl _, h1.ho.own hD ⟨[], rfl, trivial⟩⟩, ?_⟩
  rintro i mm H' ⟨F', rfl, hil, e2, h2⟩
  by_cases hlt : i < xs.length
  · have hd : (xs.map df)[i]? = some (df xs[i]) := by rw [List.getElem?_map, List.getElem?_eq_getElem hlt]; rfl
    have hmem : xs[i] ∈ xs := List.getElem_mem hlt
    have itm := fd.item i _ hd F' _ H' (hP _ _) e2 h2
    have htake : xs.take (i + 1) = xs.take i ++ [xs[i]] := List.take_succ_eq_append_getElem hlt
    refine .inr ⟨itm.1, fun H3 => ∃ F3, Gw F1 F3 ∧ HoldO F3 ((Dl, oLst ((((xs.take (i + 1)).filter pf).map g).map dg)) :: O) H3, fun H3 ⟨F3, x3, h3⟩ => ⟨xs.length - (i + 1), by omega, F3, rfl, hlt, x3, h3⟩, fun x H3 hy => ?_⟩
    obtain ⟨F3, e3, h3, d3⟩ := itm.2 x H3 hy
    have fr3 : FrOk F3 (wipeF Γ (own.map (·.2))) (wipe σ (own.map (·.2))) := wipe_fr (h1.fr.mono (e2.trans e3)) _
    intro s H0 A cl fp
    refine (hg xs[i]).run _ (c.blk s H0 scope cl A fp) F3 _ _ H3 x ⟨fr3, h3⟩ d3 _ fun σ4 h4 b4 => ?_
    refine ⟨b4.wipe his, fun s' H0' A' cl' fp' => ?_⟩
    refine (ht xs[i] hmem _ _).run _ (c.blk s' H0' scope cl' A' fp') F3 σ4 H3 h4 _ fun F5 H5 e5 h5 => ?_
    cases hp : pf xs[i] with
    | false =>
      refine iteF ⟨F5, ((e2.trans e3).trans e5), ?_⟩
      have ea : (xs.take (i + 1)).filter pf = (xs.take i).filter pf := by rw [htake, List.filter_append, List.filter_cons, hp]; simp
      rw [ea]
      exact h5.ho
    | true =>
      refine iteT fun s6 H06 A6 cl6 fp6 => ?_
      refine (he xs[i] hmem hp _ _).run _ (c.blk s6 H06 scope cl6 A6 fp6) F5 σ4 H5 h5 _ fun F6 H6 v e6 h6 d6 => ?_
      obtain ⟨_, o, hq, vs, rfl, ha⟩ := h6.ho.at (k := 0) rfl
      refine ⟨vs, hq, ?_, F6, (((e2.trans e3).trans e5).trans e6), ?_⟩
      · rw [AllD.length ha, List.length_map, List.length_map]
        have l1 := List.length_filter_le pf (xs.take i)
        rw [List.length_take] at l1
        have : (sizeLine : Nat) = 16777216 := by rw [sizeLine_eq]
        omega
      · have ea : (xs.take (i + 1)).filter pf = (xs.take i).filter pf ++ [xs[i]] := by rw [htake, List.filter_append, List.filter_cons, hp]; rfl
        rw [ea, List.map_append, List.map_append]
        exact h6.ho.write (k := 0) rfl ⟨_, rfl, AllD.append ha ⟨d6, trivial⟩⟩
  · have hi' : i = xs.length := by omega
    subst hi'
    have a := fd.stop F' _ H' (hP _ _) e2 h2
    rw [List.length_map] at a
    refine .inl ⟨a, ?_⟩
    rw [List.take_length] at h2
    exact q F' H' Dl (e1.trans e2) ⟨h1.fr.mono e2, h2⟩
theorem enl_lc [Calm C] {df : α → D} {dg : β → D} {xs : List α} {g : α → β} {tg it elt : Expr} {scope : Scope} {own : List (Str × Nat)} {is : List Nat} {Γ2 : α → Fr} {P : Own → Prop} (nd : C.N.Nodup) (hi : EI G C tg it Γ O P (xs.map df)) (hP : ∀ q ac, P ((q, oLst ac) :: O)) (ok : BlkOk C.N C.sc scope own)
    (hg : ∀ x, TJ G (C.blk scope) tg (df x) (wipeF Γ (own.map (·.2))) (Γ2 x) is) (his : ∀ i ∈ is, i ∈ own.map (·.2))
    (he : ∀ x, x ∈ xs → ∀ q ac, E G (C.blk scope) elt (Γ2 x) ((q, oLst ac) :: O) (dg (g x))) (hl : xs.length < 16000000) (hs : ∀ env x, foldedSetIterable it env x = pure x) : ENL G C (.ListComp elt [⟨tg, it, [], 0⟩] scope pos) Γ O (oLst ((xs.map g).map dg)) := by
  have a := enl_lcG (G := G) (pos := pos) (pf := fun _ => true) nd hi hP ok hg his (fun x hx q ac => ts_nil) (fun x hx _ => he x hx) hl hs
  rw [List.filter_eq_self.mpr (fun _ _ => rfl)] at a
  exact a
theorem en_lc [Calm C] {df : α → D} {dg : β → D} {xs : List α} {g : α → β} {tg it elt : Expr} {scope : Scope} {own : List (Str × Nat)} {is : List Nat} {Γ2 : α → Fr} {P : Own → Prop} (nd : C.N.Nodup) (hi : EI G C tg it Γ O P (xs.map df)) (hP : ∀ q ac, P ((q, oLst ac) :: O)) (ok : BlkOk C.N C.sc scope own)
    (hg : ∀ x, TJ G (C.blk scope) tg (df x) (wipeF Γ (own.map (·.2))) (Γ2 x) is) (his : ∀ i ∈ is, i ∈ own.map (·.2))
    (he : ∀ x, x ∈ xs → ∀ q ac, E G (C.blk scope) elt (Γ2 x) ((q, oLst ac) :: O) (dg (g x))) (hl : xs.length < 16000000) (hs : ∀ env x, foldedSetIterable it env x = pure x) : EN G C (.ListComp elt [⟨tg, it, [], 0⟩] scope pos) Γ O (oLst ((xs.map g).map dg)) := en_enl (enl_lc nd hi hP ok hg his he hl hs)
structure SwL (C : Sc) (e : Expr) (x : Str) (py spos : Pos) : Prop where
  l : C.sc.names.lookup x = some .local
  sw : ∀ env : Env, env.scope = C.sc → swapsWith e (some (.Name x py)) spos.line env = pure true
theorem swL_of {elt : Expr} {gs : List Comprehension} {scope : Scope} {py spos pos : Pos} (h : (match C.sc.kind with
  | .function => true
  | _ => false) = true ∧ (match C.sc.names.lookup x with
  | some .local => true
  | _ => false) = true ∧ (py.line == pos.line) = true ∧ (scope.names.any fun (n, k) => n == x && (k == .local || k == .cell)) = false) : SwL C (.ListComp elt gs scope pos) x py spos := by
  obtain ⟨h1, h2, h3, h4⟩ := h
  have k1 : C.sc.kind = .function := by
    revert h1
    cases C.sc.kind <;> intro h <;> first | rfl | cases h
  have k2 : C.sc.names.lookup x = some .local := by
    revert h2
    cases C.sc.names.lookup x with
    | none => intro h; cases h
    | some k => cases k <;> intro h <;> first | rfl | cases h
  exact ⟨k2, fun env e => sw_true (by rw [e]; exact k1) (by rw [e]; exact k2) h3 h4⟩
section
variable {S R B' : Type} {kk : Ek S R} {oo : Out S R} {ss : List Stmt} {p1 : Pos} {e : Expr}
end
end
section
variable {G : Cfg} {C : Sc} {Γ : Fr} {O : Own} {S1 R B : Type} {k : Ek S1 R} {o : Out S1 R} {e a b : Expr} {d : D} {ds : List D} {ss : List Stmt} {pos p1 p2 p3 p4 : Pos} {x : Str} {α : Type} {f : α → D} {p : Addr} {n : Nat}
theorem ss_app {xs : List α} {y : α} {g : List α → B} (ι : B → Out S1 R) (hk : O[n]? = some (p, oLst (xs.map f))) (ha : E G C a Γ O (dP p)) (h : E G C e Γ O (f y)) (hz : xs.length < 16000000) (hb : ∀ env, attributeBase a "append" env (eval a env) = eval a env) (hl : (p1.endLine == p2.line) = true) (hs : ∀ env, starEach [e] env = (false, eval e env) :: starEach [] env)
    (hr : ∀ ys, ys = xs ++ [y] → SS G C ss Γ (O.set n (p, oLst (ys.map f))) k (ι (g ys))) : SS G C (.Expr (.Call (.Attribute a "append" p1) [e] [] p2) pos :: ss) Γ O k (ι (lt (xs ++ [y]) g)) :=
  ss_cons (t := fun X => tDrop (tBM X.K "list" rAppend (WE X a) (tCons (WE X e) tNil))) (fun X c => ps_expr (pe_bm PySem.F.plainAttrs_list PySem.F.slot_list_append PySem.F.type_list_append mt_append pe_can (pa_cons pe_can pa_nil (hs X.env)) (hb X.env) (by rw [hs]; rfl) hl (hs X.env) rfl))
    fun X c W tk F σ H hh D m => by
      refine ha.run X c F σ H hh _ fun F1 H1 v e1 h1 d1 => ?_
      have d1' : v = .ref p := d1
      subst d1'
      obtain ⟨_, o, hp, vs, rfl, _⟩ := h1.ho.at hk
      refine ⟨.inl ⟨rfl, vs, SqL.of hp⟩, h.run X c F1 σ H1 h1 _ fun F2 H2 u e2 h2 d2 => ?_⟩
      obtain ⟨_, o2, hp2, us, rfl, hal⟩ := h2.ho.at hk
      refine ⟨p, us, u, rfl, rfl, hp2, ?_, ?_⟩
      · rw [AllD.length hal, List.length_map]
        have : (sizeLine : Nat) = 16777216 := by rw [sizeLine_eq]
        omega
      · refine (hr _ rfl).run X c W tk F2 σ _ ⟨h2.fr, h2.ho.write hk ⟨_, rfl, ?_⟩⟩ D (meet.mono (e1.trans e2) m)
        rw [List.map_append]
        exact AllD.append hal ⟨d2, trivial⟩
theorem ss_freeze {i : Nat} (hi : Γ[i]? = some (some (dP p))) (h : SS G C ss (Γ.set i (some (dLst G.K ds))) O k o) : SS G C ss Γ ((p, oLst ds) :: O) k o := .mk fun X c W tk F σ H hh D m => by
  obtain ⟨F', e, h2, d2⟩ := freeze_lst (G := G) hh.ho
  obtain ⟨v, hv, hd⟩ := hh.fr.2 i _ hi
  refine h.run X c W tk F' σ H ⟨?_, h2⟩ D (meet.mono e m)
  have hd' : v = .ref p := hd
  subst hd'
  have a := (hh.fr.mono e).set i d2
  have es : σ.set i (some (.ref p)) = σ := by
    refine List.ext_getElem? fun j => ?_
    by_cases hj : i = j
    · subst hj
      rw [List.getElem?_set_self (List.getElem?_eq_some_iff.mp hv).1, hv]
    · rw [List.getElem?_set_ne hj]
  rw [es] at a
  exact a
end
end Kn
namespace Kn
open PySem PySem.Spec L2
section
variable {α β γ δ : Type}
abbrev dLo (K : PySem.W.Frag) (f : α → D) (l : List α) : D := dLst K (l.map f)
abbrev dVt (K : PySem.W.Frag) (f : α → D) (l : List α) : D := dTup K (l.map f)
abbrev dT2 (K : PySem.W.Frag) (f : α → D) (g : β → D) (p : α × β) : D := dTup K [f p.1, g p.2]
abbrev dT3 (K : PySem.W.Frag) (f : α → D) (g : β → D) (h : γ → D) (p : α × β × γ) : D := dTup K [f p.1, g p.2.1, h p.2.2]
abbrev dT4 (K : PySem.W.Frag) (f : α → D) (g : β → D) (h : γ → D) (i : δ → D) (p : α × β × γ × δ) : D := dTup K [f p.1, g p.2.1, h p.2.2.1, i p.2.2.2]
end
structure Def (G : Cfg) (x : Str) (st : Stmt) : Prop where
  ex : ∃ (f : Addr) (fd : FuncData), FunD G.K x x (defArgs st) (defBody st) (defScope st) [] [] f fd ∧ G.mg x = some (.ref f)
theorem Def.callee {G : Cfg} {x : Str} {st : Stmt} (d : Def G x st) {N ps : List Str} {k : Nat} {S : SpecD} (sc : FnScope N ps (defScope st)) (len : ∀ ds O rk, S ds O rk → ds.length = ps.length)
    (hbind : ∀ (kV doc pm : Value) (an : Option Addr) (cdv ct : Value) (us : List Value), us.length = ps.length → bindArgs (PySem.W.fnOf x x (defArgs st) (defBody st) (defScope st) .none kV doc pm an cdv ct) ⟨us, []⟩ = pure (ps.zip us))
    (hb : ∀ ds O rk, S ds O rk → ∃ (S1 R : Type) (ek : Ek S1 R) (r : R), SS G ⟨k, N, defScope st, true, true⟩ (defBody st) (frame0 N ds) O ek (.rt r) ∧ ek.rs r = rk) : Callee G (k + 1) x S := by
  obtain ⟨f, fd, F, g⟩ := d.ex
  exact callee_of (fn_ok F sc len hb) g F.kp (F.bindsN hbind)
theorem scope_of {N ps : List Str} {sc : Scope} (h1 : sc.kind = .function) (h2 : sc.isCoroutine = false) (h3 : sc.isGenerator = false) (h : (decide N.Nodup && decide (N.take ps.length = ps) && ps.all (fun x => match sc.names.lookup x with
  | some .local => true
  | some .cell => true
  | _ => false) && sc.names.all fun y => match y.2 with
  | .free => false
  | _ => true) = true) : FnScope N ps sc := by
  simp only [Bool.and_eq_true, decide_eq_true_eq, List.all_eq_true] at h
  obtain ⟨⟨⟨a, b⟩, c⟩, d⟩ := h
  refine ⟨h1, h2, h3, a, b, fun x hx => ?_, fun y hy e => ?_⟩
  · have q := c x hx
    revert q
    cases sc.names.lookup x with
    | none => intro h; cases h
    | some k => cases k <;> intro h <;> first | exact .inl rfl | exact .inr rfl | cases h
  · have q := d y hy
    rw [e] at q
    cases q
section
variable {G : Cfg} {C : Sc} {Γ : Fr} {O : Own} {S1 R B : Type} {k : Ek S1 R} {o : Out S1 R} {e a b c : Expr} {es : List Expr} {d da db : D} {ds : List D} {ss : List Stmt} {pos p1 p2 p3 : Pos} {x : Str} {α : Type} {f : α → D}
theorem e_powC {i j : Int} (r : Int) (ha : E G C a Γ O (dI i)) (hb : E G C b Γ O (dI j)) (hm : (decide (0 ≤ j) && decide (j ≤ 1000000) && decide (i.natAbs < 2 ^ 64) && decide (i ^ j.toNat = r)) = true) : E G C (.BinOp a .Pow b pos) Γ O (dI r) := by
  simp only [Bool.and_eq_true, decide_eq_true_eq] at hm
  obtain ⟨⟨⟨h1, h2⟩, h3⟩, h4⟩ := hm
  exact e_eq (e_pow ha hb ⟨h1, h2, h3⟩) (by rw [h4])
theorem e_divS {i j : Int} (ha : E G C a Γ O (dI i)) (hb : E G C b Γ O (dI j)) (h1 : 0 < j ∧ j < 1073741824) : E G C (.BinOp a .FloorDiv b pos) Γ O (dI (i / j)) := e_div ha hb h1
theorem e_mulL {i j : Int} (ha : E G C a Γ O (dI i)) (hb : E G C b Γ O (dI j)) (h : -18446744073709551616 < i ∧ i < 18446744073709551616) : E G C (.BinOp a .Mult b pos) Γ O (dI (i * j)) := e_mul ha hb (.inl ⟨by have := h.1; omega, by have := h.2; omega⟩)
theorem e_mulR {i j : Int} (ha : E G C a Γ O (dI i)) (hb : E G C b Γ O (dI j)) (h : -18446744073709551616 < j ∧ j < 18446744073709551616) : E G C (.BinOp a .Mult b pos) Γ O (dI (i * j)) := e_mul ha hb (.inr ⟨by have := h.1; omega, by have := h.2; omega⟩)
theorem mem_upto {n i : Int} (h : i ∈ upto n) : 0 ≤ i ∧ i < n := by
  unfold upto at h
  obtain ⟨j, hj, rfl⟩ := List.mem_map.mp h
  have := List.mem_range.mp hj
  omega
theorem upto_len {n : Int} : (upto n).length = n.toNat := by unfold upto; rw [List.length_map, List.length_range]
theorem range2_len {m n : Int} : (range2 m n).length = (n - m).toNat := by unfold range2; rw [List.length_map, List.length_range]
theorem inR_mod {n : Nat} {i : Int} (h : 0 < n) : inR n (i % (n : Int)) := by
  have h1 := Int.emod_nonneg i (b := (n : Int)) (by omega)
  have h2 := Int.emod_lt_of_pos i (b := (n : Int)) (by omega)
  exact ⟨by omega, h2⟩
theorem inV_str {s : Str} : ∀ {l : List Str}, inV (.str s) (l.map V.str) = decide (s ∈ l)
  | [] => rfl
  | a :: l => by
    have ih := inV_str (s := s) (l := l)
    unfold inV at ih ⊢
    rw [List.map_cons, List.any_cons, ih]
    show ((a == s) || decide (s ∈ l)) = decide (s ∈ a :: l)
    by_cases h : s = a
    · rw [h]; simp
    · have h1 : (a == s) = false := beq_eq_false_iff_ne.mpr fun z => h z.symm
      rw [h1, Bool.false_or]
      exact dec_iff ⟨fun z => List.mem_cons_of_mem _ z, fun z => (List.mem_cons.mp z).elim (fun e => absurd e h) id⟩
theorem flat_str (l : List Str) : (l.map V.str).all flatV = true := by
  rw [List.all_eq_true]
  intro x hx
  obtain ⟨y, _, rfl⟩ := List.mem_map.mp hx
  rfl
theorem subL {K : PySem.W.Frag} {l : List Str} (F : Hp) (v : V) (h : (dLst K (l.map dS)).ok F v) : (dLst K ((l.map V.str).map dV)).ok F v := by
  obtain ⟨a, vs, h1, h2, h3⟩ := h
  refine ⟨a, vs, h1, h2, ?_⟩
  rw [(AllD.dS h3).1]
  exact allD_dV _
theorem subT {K : PySem.W.Frag} {l : List Str} (F : Hp) (v : V) (h : (dTup K (l.map dS)).ok F v) : (dTup K ((l.map V.str).map dV)).ok F v := by
  obtain ⟨a, vs, h1, h2, h3⟩ := h
  refine ⟨a, vs, h1, h2, ?_⟩
  rw [(AllD.dS h3).1]
  exact allD_dV _
theorem map_dI (l : List Int) : l.map dI = (l.map V.int).map dV := by rw [List.map_map]; rfl
theorem c_inLS {s : Str} {l : List Str} : CmpR G C .In O (dS s) (dLst G.K (l.map dS)) (decide (s ∈ l)) := by rw [← inV_str]; exact c_weak (c_inS rfl (flat_str l)) (fun _ _ h => h.1) subL
theorem c_ninLS {s : Str} {l : List Str} : CmpR G C .NotIn O (dS s) (dLst G.K (l.map dS)) (!decide (s ∈ l)) := by rw [← inV_str]; exact c_weak (c_ninS rfl (flat_str l)) (fun _ _ h => h.1) subL
theorem c_inTS {s : Str} {l : List Str} : CmpR G C .In O (dS s) (dTup G.K (l.map dS)) (decide (s ∈ l)) := by rw [← inV_str]; exact c_weak (c_inT rfl (flat_str l)) (fun _ _ h => h.1) subT
def hasSign (z s : Str) : Bool := decide (s ∈ signs z)
theorem mem_signs {z : Str} {c : Nat} : (⟨#[c]⟩ : Str) ∈ signs z ↔ c ∈ z.cps.toList := by
  unfold signs
  constructor
  · intro h
    obtain ⟨d, hd, e⟩ := List.mem_map.mp h
    have e2 : #[d] = #[c] := congrArg Str.cps e
    have e3 : d = c := by simpa using e2
    rw [← e3]; exact hd
  · intro h
    exact List.mem_map.mpr ⟨c, h, rfl⟩
theorem c_ninZ {s z y : Str} (hs : s ∈ signs y) : CmpR G C .NotIn O (dS s) (dS z) (!hasSign z s) := by
  obtain ⟨c, _, rfl⟩ := List.mem_map.mp hs
  exact c_is c_ninSign (by unfold hasSign; rw [dec_iff mem_signs.symm])
theorem sizeN : (sizeLine : Nat) = 16777216 := by rw [sizeLine_eq]
theorem e_globT {ds : List D} {a : Addr} (g : Glo C x) (hm : G.mg x = some (.ref a)) (h : ∀ F, (dTup G.K ds).ok F (.ref a)) : E G C (.Name x pos) Γ O (dTup G.K ds) := e_as (e_glob (v := .ref a) g hm rfl) fun F v hv => by
  have e : v = .ref a := hv
  rw [e]; exact h F
end
end Kn
namespace Kn
open PySem PySem.Spec L2
theorem bt_len : bootBuiltins "len" = some (.builtin "len") := by decide +kernel
theorem bt_min : bootBuiltins "min" = some (.builtin "min") := by decide +kernel
theorem bt_max : bootBuiltins "max" = some (.builtin "max") := by decide +kernel
theorem bt_isinstance : bootBuiltins "isinstance" = some (.builtin "isinstance") := by decide +kernel
theorem bt_int : bootBuiltins "int" = some (.type "int") := by decide +kernel
theorem bt_str : bootBuiltins "str" = some (.type "str") := by decide +kernel
theorem bt_bool : bootBuiltins "bool" = some (.type "bool") := by decide +kernel
theorem bt_list : bootBuiltins "list" = some (.type "list") := by decide +kernel
theorem bt_tuple : bootBuiltins "tuple" = some (.type "tuple") := by decide +kernel
def imin (i j : Int) : Int := if j < i then j else i
def imax (i j : Int) : Int := if j > i then j else i
def bi (k : Bool) : Int := if k then 1 else 0
inductive Ret (S R : Type) where
  | nx (s : S)
  | rt (r : R)
def Ret.out {S R : Type} : Ret S R → Out S R
  | .nx s => .nx s
  | .rt r => .rt r
def loopL {S α R : Type} (f : S → α → Ret S R) : List α → S → Ret S R
  | [], s => .nx s
  | x :: xs, s => match f s x with
    | .nx s' => loopL f xs s'
    | .rt r => .rt r
theorem loopL_out {S α R : Type} {f : S → α → Ret S R} : ∀ {xs : List α} {s : S}, forL (fun s x => (f s x).out) xs s = (loopL f xs s).out
  | [], _ => rfl
  | x :: xs, s => by
    show (match (f s x).out with
      | .nx s' => forL (fun s x => (f s x).out) xs s'
      | .rt r => .rt r
      | .ex e => .ex e) = _
    show _ = (match f s x with
      | .nx s' => loopL f xs s'
      | .rt r => .rt r : Ret S R).out
    cases f s x with
    | nx s' => exact loopL_out (xs := xs)
    | rt r => rfl
def lp {S R : Type} (o : Ret S R) (g : S → R) : R := match o with
  | .nx s => g s
  | .rt r => r
def Ret.bind {S S1 R : Type} (o : Ret S1 R) (g : S1 → Ret S R) : Ret S R := match o with
  | .nx s => g s
  | .rt r => .rt r
theorem Ret.out_nx {S R : Type} {o : Ret S R} {s : S} (h : o.out = .nx s) : o = .nx s := by
  cases o with
  | nx t => cases h; rfl
  | rt r => cases h
section
variable {G : Cfg} {C : Sc} {Γ : Fr} {O : Own} {P : Own → Prop} {S S1 R B : Type} {k : Ek S R} {o : Out S R} {e a b c it tg : Expr} {es : List Expr} {d da db : D} {ds : List D} {ss body ta tb : List Stmt} {pos p1 p2 p3 : Pos} {x : Str} {α : Type} {f : α → D} {is : List Nat}
theorem ss_loop [Calm C] {df : α → D} {xs : List α} {h : S1 → α → Ret S1 R} {s0 : S1} {g : S1 → R} (Γ1 : S1 → Fr) (Γ2 : S1 → α → Fr) (O1 : S1 → Own) (hi : EI G C tg it Γ O P (xs.map df)) (l0 : FrLe Γ (Γ1 s0)) (o0 : O = O1 s0) (hP : ∀ s, P (O1 s))
    (hg : ∀ s x, TJ G C tg (df x) (Γ1 s) (Γ2 s x) is)
    (hb : ∀ s x pre post, xs = pre ++ x :: post → loopL h pre s0 = .nx s → SS G C body (Γ2 s x) (O1 s) (k.to fun s => SD.of (Γ1 s) (O1 s)) (h s x).out)
    (hr : ∀ s, loopL h xs s0 = .nx s → SS G C ss (Γ1 s) (O1 s) k (.rt (g s))) (hs : ∀ env x, foldedSetIterable it env x = pure x) : SS G C (.For tg it body [] pos :: ss) Γ O k (.rt (lp (loopL h xs s0) g)) := by
  have q := ss_for (ss := ss) (pos := pos) (k := k) (g := fun s => .rt (g s)) (f := fun s x => (h s x).out) Γ1 Γ2 O1 hi l0 o0 hP hg (fun s x pre post e z => hb s x pre post e (Ret.out_nx (by rw [← loopL_out]; exact z))) (fun s z => hr s (Ret.out_nx (by rw [← loopL_out]; exact z))) hs
  rw [loopL_out] at q
  revert q
  cases loopL h xs s0 with
  | nx s => exact fun q => q
  | rt r => exact fun q => q
theorem e_globI {i : Int} (g : Glo C x) (hm : ∃ t, G.mg x = some (.int i t)) : E G C (.Name x pos) Γ O (dI i) := by
  obtain ⟨t, hm⟩ := hm
  exact e_glob g hm ⟨t, rfl⟩
theorem e_globS {i : Str} (g : Glo C x) (hm : ∃ t, G.mg x = some (.str i t)) (ho : okSb i = true := by decide +kernel) : E G C (.Name x pos) Γ O (dS i) := by
  obtain ⟨t, hm⟩ := hm
  exact e_as (e_glob (v := .str i) g hm ⟨t, rfl⟩) fun F v hv => ⟨hv, okS_of ho⟩
theorem e_globTS {l : List Str} (g : Glo C x) (hm : ∃ p, G.mg x = some (.ref p) ∧ ∀ H, SqT G.K H p (l.map V.str)) (ho : l.all okSb = true := by decide +kernel) : E G C (.Name x pos) Γ O (dTup G.K (l.map dS)) := by
  obtain ⟨p, hm, hs⟩ := hm
  exact e_globT g hm fun F => ⟨p, _, rfl, hs F, allD_dS l fun s h => okS_of (List.all_eq_true.mp ho s h)⟩
theorem k_lenLo {xs : List α} : CalR G C (.builtin "len") O [dLst G.K (xs.map f)] (dI xs.length) := by
  have h := k_lenL (G := G) (C := C) (O := O) (ds := xs.map f)
  rw [List.length_map] at h
  exact h
theorem k_lenVt {xs : List α} : CalR G C (.builtin "len") O [dTup G.K (xs.map f)] (dI xs.length) := by
  have h := k_lenT (G := G) (C := C) (O := O) (ds := xs.map f)
  rw [List.length_map] at h
  exact h
theorem k_lenOo {xs : List α} {k : Nat} {p : Addr} (hk : O[k]? = some (p, oLst (xs.map f))) : CalR G C (.builtin "len") O [dP p] (dI xs.length) := by
  have h := k_lenO (G := G) (C := C) (O := O) hk
  rw [List.length_map] at h
  exact h
theorem k_min2 [Calm C] {i j : Int} : CalR G C (.builtin "min") O [dI i, dI j] (dI (imin i j)) := k_min
theorem k_max2 [Calm C] {i j : Int} : CalR G C (.builtin "max") O [dI i, dI j] (dI (imax i j)) := k_max
theorem k_intB2 {k : Bool} : CalR G C (.type "int") O [dB k] (dI (bi k)) := k_intB
theorem join_len (z : Str) : ∀ l : List Str, (Str.join z l).length ≤ (l.map (·.length)).sum + l.length * z.length
  | [] => Nat.zero_le _
  | [x] => by
    show x.length ≤ _
    simp only [List.map_cons, List.map_nil, List.sum_cons, List.sum_nil, List.length_cons, List.length_nil]
    omega
  | x :: y :: r => by
    have ih := join_len z (y :: r)
    have e : (Str.join z (x :: y :: r)).length = x.length + z.length + (Str.join z (y :: r)).length := by
      show ((x.cps ++ z.cps) ++ (Str.join z (y :: r)).cps).size = _
      rw [Array.size_append, Array.size_append]
      rfl
    rw [e]
    simp only [List.map_cons, List.sum_cons, List.length_cons, Nat.add_mul, Nat.one_mul] at ih ⊢
    omega
theorem join_ok {z : Str} (hz : okS z) : ∀ {l : List Str}, (∀ s ∈ l, okS s) → PyData.strOk (Str.join z l) = true
  | [], _ => (by decide +kernel : PyData.strOk Str.empty = true)
  | [x], h => (h x List.mem_cons_self).1
  | x :: y :: r, h => by
    have ih := join_ok hz (l := y :: r) fun s hs => h s (List.mem_cons_of_mem _ hs)
    refine strOk_iff.mpr fun c hc => ?_
    have hc2 : c ∈ ((x.cps ++ z.cps) ++ (Str.join z (y :: r)).cps).toList := hc
    rw [Array.toList_append, Array.toList_append] at hc2
    rcases List.mem_append.mp hc2 with h1 | h1
    · rcases List.mem_append.mp h1 with h2 | h2
      · exact strOk_iff.mp (h x List.mem_cons_self).1 c h2
      · exact strOk_iff.mp hz.1 c h2
    · exact strOk_iff.mp ih c h1
theorem e_join {z : Str} {l : List Str} (ha : E G C a Γ O (dS z)) (hb : E G C b Γ O (dLst G.K (l.map dS))) (hl : (l.map (·.length)).sum + l.length * z.length ≤ 16777216) (hs : ∀ env, starEach [b] env = [(false, eval b env)]) (hba : ∀ env, attributeBase a "join" env (eval a env) = eval a env) (hln : (p1.endLine == pos.line) = true) : E G C (.Call (.Attribute a "join" p1) [b] [] pos) Γ O (dS (Str.join z l)) := .mk fun X c F σ H hh Q q => by
  refine we_of (pe_join pe_can pe_can (hs X.env) (hba X.env) hln) (ha.run X c F σ H hh _ fun F1 H1 v e1 h1 d1 => ⟨⟨z, d1.1⟩, ?_⟩)
  refine hb.run X c F1 σ H1 h1 _ fun F2 H2 u e2 h2 d2 => ?_
  obtain ⟨p, vs, rfl, hs, hal⟩ := d2
  obtain ⟨ev, ho⟩ := AllD.dS hal
  subst ev
  refine ⟨z, p, l, d1.1, rfl, .inl (by rw [c.K]; exact gw_l h2.ho.ex hs.sq), hl, ?_⟩
  rw [TL.join_eq]
  exact q F2 H2 _ (e1.trans e2) h2 ⟨rfl, join_ok d1.2 ho, by rw [sizeLine_eq]; exact Nat.le_trans (join_len z l) hl⟩
def enumF {α : Type} : Nat → List α → List (Int × α)
  | _, [] => []
  | i, x :: xs => ((i : Int), x) :: enumF (i + 1) xs
def enumL {α : Type} (xs : List α) : List (Int × α) := enumF 0 xs
theorem enumF_len : ∀ {xs : List α} {i : Nat}, (enumF i xs).length = xs.length
  | [], _ => rfl
  | _ :: xs, i => by show (enumF (i + 1) xs).length + 1 = _; rw [enumF_len (xs := xs)]; rfl
theorem enumF_at : ∀ {xs : List α} {i j : Nat}, (enumF i xs)[j]? = (xs[j]?).map fun x => (((i + j : Nat) : Int), x)
  | [], _, _ => rfl
  | x :: xs, i, 0 => rfl
  | x :: xs, i, j + 1 => by
    show (enumF (i + 1) xs)[j]? = _
    rw [enumF_at (xs := xs), List.getElem?_cons_succ]
    have e : i + 1 + j = i + (j + 1) := by omega
    rw [e]
theorem mem_enum {xs : List α} {p : Int × α} (h : p ∈ enumL xs) : 0 ≤ p.1 ∧ p.1 < xs.length ∧ p.2 ∈ xs := by
  obtain ⟨j, hj, e⟩ := List.mem_iff_getElem.mp h
  have e2 : (enumL xs)[j]? = some p := by rw [List.getElem?_eq_getElem hj, e]
  unfold enumL at e2
  rw [enumF_at] at e2
  cases q : xs[j]? with
  | none => rw [q] at e2; cases e2
  | some x =>
    rw [q] at e2
    cases e2
    have hl := (List.getElem?_eq_some_iff.mp q).1
    exact ⟨by show (0 : Int) ≤ ((0 + j : Nat) : Int); omega, by show ((0 + j : Nat) : Int) < _; omega, List.mem_of_getElem? q⟩
theorem ei_enum {xs : List α} {elts : List Expr} {kk : Nat} (g : Glo C "enumerate") (hm : G.mg "enumerate" = none) (h : E G C a Γ O (dLst G.K (xs.map f))) (hs : ∀ env, starEach [a] env = [(false, eval a env)]) : EI G C (.Tuple elts kk p2) (.Call (.Name "enumerate" p1) [a] [] pos) Γ O anyO ((enumL xs).map (dT2 G.K dI f)) := .mk fun X c F σ H hh R q =>
  wi_of (pi_enum (c.gl g) (by rw [c.mg]; exact hm) (pa_cons pe_can pa_nil (by rw [hs]; rfl)) (hs X.env)) (h.run X c F σ H hh _ fun F1 H1 v e1 h1 d1 => by
    obtain ⟨p, vs, rfl, hl, hal⟩ := d1
    have hs' : ∀ {F' O' H'}, Gw F1 F' → HoldO F' O' H' → SqL X.K H' p vs := fun e h => by rw [c.K]; exact gw_l (e.trans h.ex) hl.sq
    have hlen := AllD.length hal
    rw [List.length_map] at hlen
    refine ⟨p, vs, rfl, hs' (Gw.refl _) h1.ho, q _ F1 H1 e1 h1 ⟨fun i d hd F O H _ e h => ?_, fun F O H _ e h => ?_⟩⟩
    · unfold enumL at hd
      rw [List.getElem?_map, enumF_at] at hd
      cases hx : xs[i]? with
      | none => rw [hx] at hd; cases hd
      | some w =>
        rw [hx] at hd
        cases hd
        obtain ⟨v, hv, dv⟩ := AllD.get (d := f w) hal (by rw [List.getElem?_map, hx]; rfl)
        refine ⟨⟨vs, v, hs' e h, hv⟩, fun y H' hy => ?_⟩
        obtain ⟨T, z, rfl, hT, rfl, hz⟩ := hy
        have hz' := hz vs (hs' e h)
        rw [hv] at hz'
        cases hz'
        obtain ⟨h2, e2⟩ := h.laid (o := .tup [.int (i : Nat), v]) hT
        refine ⟨_, e2, h2, T, [.int (i : Nat), v], rfl, .inl (.inl upd_same), ?_, (f w).mono (e.trans e2) dv, trivial⟩
        show V.int (i : Nat) = V.int ((0 + i : Nat) : Int)
        rw [Nat.zero_add]
    · refine ⟨vs, hs' e h, ?_⟩
      rw [List.length_map]
      unfold enumL
      rw [enumF_len, hlen]
      exact Nat.le_refl _)
end
end Kn
namespace Kn
open PySem PySem.Spec L2
theorem slen_app {a b : Str} : (a ++ b).length = a.length + b.length := by
  show (a.cps ++ b.cps).size = a.cps.size + b.cps.size
  exact Array.size_append
theorem signAt_len {z : Str} {i : Int} : (signAt z i).length = 1 := rfl
theorem signs_len {z : Str} : (signs z).length = z.length := by
  unfold signs
  rw [List.length_map, Array.length_toList]
  rfl
theorem enumL_len {α : Type} {xs : List α} : (enumL xs).length = xs.length := enumF_len
theorem cutS_len {z : Str} {i j : Option Int} : (cutS z i j).length ≤ z.length := cutS_length z i j
theorem cut_len {α : Type} {xs : List α} {i j : Option Int} : (cut xs i j).length ≤ xs.length := by
  unfold cut
  rw [List.length_take, List.length_drop]
  omega
theorem foldl_meas {S α : Type} {m : S → Nat} {c : Nat} {f : S → α → S} (h : ∀ s x, m (f s x) ≤ m s + c) : ∀ {xs : List α} {s0 : S}, m (xs.foldl f s0) ≤ m s0 + c * xs.length
  | [], s0 => by show m s0 ≤ m s0 + c * 0; omega
  | x :: xs, s0 => by
    have ih := foldl_meas h (xs := xs) (s0 := f s0 x)
    have a := h s0 x
    show m (xs.foldl f (f s0 x)) ≤ m s0 + c * (xs.length + 1)
    rw [Nat.mul_add, Nat.mul_one]
    omega
theorem foldl_measE {S α : Type} {m : S → Nat} {c : Nat} {f : S → α → S} (h : ∀ s x, m (f s x) = m s + c) : ∀ {xs : List α} {s0 : S}, m (xs.foldl f s0) = m s0 + c * xs.length
  | [], s0 => by show m s0 = m s0 + c * 0; omega
  | x :: xs, s0 => by
    have ih := foldl_measE h (xs := xs) (s0 := f s0 x)
    have a := h s0 x
    show m (xs.foldl f (f s0 x)) = m s0 + c * (xs.length + 1)
    rw [Nat.mul_add, Nat.mul_one]
    omega
theorem inR_len {n m : Nat} {i : Int} (h : n = m) (h2 : -(m : Int) ≤ i ∧ i < m) : inR n i := by rw [h]; exact h2
end Kn
namespace Kn
open PySem PySem.Spec L2
inductive Va where
  | non
  | bl (b : Bool)
  | int (i : Int)
  | str (s : Str)
  | lst (xs : List Va)
  | tup (xs : List Va)
  | dic
instance : Inhabited Va := ⟨.non⟩
def dEmp : D := ⟨fun F v => ∃ a, v = .ref a ∧ F a = some (.dK []), fun e ⟨a, h1, h2⟩ => ⟨a, h1, e a _ h2⟩⟩
mutual
def dA (K : PySem.W.Frag) : Va → D
  | .non => dN
  | .bl b => dB b
  | .int i => dI i
  | .str s => dS s
  | .lst xs => dLst K (dAs K xs)
  | .tup xs => dTup K (dAs K xs)
  | .dic => dEmp
def dAs (K : PySem.W.Frag) : List Va → List D
  | [] => []
  | x :: xs => dA K x :: dAs K xs
end
theorem dAs_map {K : PySem.W.Frag} : ∀ xs : List Va, dAs K xs = xs.map (dA K)
  | [] => by simp only [dAs, List.map_nil]
  | x :: xs => by simp only [dAs, List.map_cons, dAs_map xs]
theorem dA_int {K : PySem.W.Frag} (i : Int) : dA K (.int i) = dI i := by simp only [dA]
theorem dA_str {K : PySem.W.Frag} (i : Str) : dA K (.str i) = dS i := by simp only [dA]
theorem dA_bl {K : PySem.W.Frag} (i : Bool) : dA K (.bl i) = dB i := by simp only [dA]
theorem dA_non {K : PySem.W.Frag} : dA K .non = dN := by simp only [dA]
theorem dA_dic {K : PySem.W.Frag} : dA K .dic = dEmp := by simp only [dA]
theorem dA_lst {K : PySem.W.Frag} (xs : List Va) : dA K (.lst xs) = dLst K (xs.map (dA K)) := by simp only [dA, dAs_map]
theorem dA_tup {K : PySem.W.Frag} (xs : List Va) : dA K (.tup xs) = dTup K (xs.map (dA K)) := by simp only [dA, dAs_map]
def Va.kind : Va → String
  | .non => "NoneType"
  | .bl _ => "bool"
  | .int _ => "int"
  | .str _ => "str"
  | .lst _ => "list"
  | .tup _ => "tuple"
  | .dic => "dict"
def isA (n : String) (x : Va) : Bool := decide (x.kind = n) || (decide (n = "int") && decide (x.kind = "bool"))
def Va.asI : Va → Int
  | .int i => i
  | _ => 0
def Va.asS : Va → Str
  | .str i => i
  | _ => ""
def Va.asT : Va → List Va
  | .tup i => i
  | _ => []
theorem isy_str {K : PySem.W.Frag} {x : Va} (h : isA "str" x = true) : dA K x = dS x.asS := by
  cases x with
  | str s => exact dA_str s
  | _ => simp [isA, Va.kind] at h
theorem isy_tup {K : PySem.W.Frag} {x : Va} (h : isA "tuple" x = true) : dA K x = dTup K (x.asT.map (dA K)) := by
  cases x with
  | tup s => exact dA_tup s
  | _ => simp [isA, Va.kind] at h
theorem isy_int {K : PySem.W.Frag} {x : Va} (h : isA "int" x = true) (h2 : isA "bool" x = false) : dA K x = dI x.asI := by
  cases x with
  | int s => exact dA_int s
  | _ => simp [isA, Va.kind] at h h2
theorem ty_emp {K : PySem.W.Frag} : IsTy K dEmp "dict" := fun F H v ex ⟨a, h1, h2⟩ => by
  subst h1
  exact .base (.dK (ex _ _ h2))
theorem ty_any {K : PySem.W.Frag} (x : Va) : IsTy K (dA K x) x.kind := by
  cases x with
  | non => rw [dA_non]; exact ty_none
  | bl b => rw [dA_bl]; exact ty_bool
  | int b => rw [dA_int]; exact ty_int
  | str b => rw [dA_str]; exact ty_str
  | lst b => rw [dA_lst]; exact ty_lst
  | tup b => rw [dA_tup]; exact ty_tup
  | dic => rw [dA_dic]; exact ty_emp
theorem notT {b : Bool} (h : (!b) = true) : b = false := by revert h; cases b <;> simp
theorem notF {b : Bool} (h : (!b) = false) : b = true := by revert h; cases b <;> simp
theorem andL {a b : Bool} (h : (a && b) = true) : a = true := (Bool.and_eq_true_iff.mp h).1
theorem andR {a b : Bool} (h : (a && b) = true) : b = true := (Bool.and_eq_true_iff.mp h).2
theorem orL {a b : Bool} (h : (a || b) = false) : a = false := (Bool.or_eq_false_iff.mp h).1
def kinds : List String := ["NoneType", "bool", "int", "str", "list", "tuple", "dict"]
theorem kitB_any (x : Va) {n : String} (h : (kinds.all fun k => decide (kitB k n = some (decide (k = n) || (decide (n = "int") && decide (k = "bool"))))) = true) : kitB x.kind n = some (isA n x) := by
  rw [List.all_eq_true] at h
  have hm : x.kind ∈ kinds := by cases x <;> simp [Va.kind, kinds]
  exact of_decide_eq_true (h _ hm)
section
variable {G : Cfg} {C : Sc} {Γ : Fr} {O : Own} {e a b : Expr} {es : List Expr} {d da db : D} {ds : List D} {pos p1 p2 p3 : Pos} {x : Str} {α β γ δ : Type} {f : α → D} {g : β → D} {h : γ → D} {i : δ → D}
theorem k_isA {n : String} {x : Va} (hb : (kinds.all fun k => decide (kitB k n = some (decide (k = n) || (decide (n = "int") && decide (k = "bool"))))) = true) : CalR G C (.builtin "isinstance") O [dA G.K x, dV (.ty n)] (dB (isA n x)) := k_isi (ty_any x) (kitB_any x hb)
theorem kit_int : (kinds.all fun k => decide (kitB k "int" = some (decide (k = "int") || (decide ("int" = "int") && decide (k = "bool"))))) = true := by decide +kernel
theorem kit_str : (kinds.all fun k => decide (kitB k "str" = some (decide (k = "str") || (decide ("str" = "int") && decide (k = "bool"))))) = true := by decide +kernel
theorem kit_bool : (kinds.all fun k => decide (kitB k "bool" = some (decide (k = "bool") || (decide ("bool" = "int") && decide (k = "bool"))))) = true := by decide +kernel
theorem kit_list : (kinds.all fun k => decide (kitB k "list" = some (decide (k = "list") || (decide ("list" = "int") && decide (k = "bool"))))) = true := by decide +kernel
theorem kit_tuple : (kinds.all fun k => decide (kitB k "tuple" = some (decide (k = "tuple") || (decide ("tuple" = "int") && decide (k = "bool"))))) = true := by decide +kernel
theorem any_lst {p : α → Va} (hp : ∀ x, f x = dA G.K (p x)) (xs : List α) : dLst G.K (xs.map f) = dA G.K (.lst (xs.map p)) := by
  rw [dA_lst, List.map_map]
  congr 1
  exact List.map_congr_left fun x _ => hp x
theorem any_tup {p : α → Va} (hp : ∀ x, f x = dA G.K (p x)) (xs : List α) : dTup G.K (xs.map f) = dA G.K (.tup (xs.map p)) := by
  rw [dA_tup, List.map_map]
  congr 1
  exact List.map_congr_left fun x _ => hp x
theorem any_t3 {p : α → Va} {q : β → Va} {r : γ → Va} (hp : ∀ x, f x = dA G.K (p x)) (hq : ∀ x, g x = dA G.K (q x)) (hr : ∀ x, h x = dA G.K (r x)) (x : α × β × γ) : dT3 G.K f g h x = dA G.K (.tup [p x.1, q x.2.1, r x.2.2]) := by
  rw [dA_tup]
  simp only [List.map_cons, List.map_nil, dT3, hp, hq, hr]
theorem any_t4 {p : α → Va} {q : β → Va} {r : γ → Va} {s : δ → Va} (hp : ∀ x, f x = dA G.K (p x)) (hq : ∀ x, g x = dA G.K (q x)) (hr : ∀ x, h x = dA G.K (r x)) (hs : ∀ x, i x = dA G.K (s x)) (x : α × β × γ × δ) : dT4 G.K f g h i x = dA G.K (.tup [p x.1, q x.2.1, r x.2.2.1, s x.2.2.2]) := by
  rw [dA_tup]
  simp only [List.map_cons, List.map_nil, dT4, hp, hq, hr, hs]
end
end Kn
namespace Kn
open PySem PySem.Spec L2
structure Dat {α : Type} [DecidableEq α] (K : PySem.W.Frag) (f : α → D) (p : α → PyData) (n : Nat) : Prop where
  ok : ∀ (a : α) (F H : Hp) (v : V), Gw F H → (f a).ok F v → Dp K H v (p a)
  lay : ∀ (a : α) (F : Hp) (v : V), (f a).ok F v → (p a).canLay0 = true
  dep : ∀ a, (p a).depth ≤ n
  eq : ∀ a b, PyData.eqv (p a) (p b) = decide (a = b)
theorem beq_dec {α : Type} [DecidableEq α] [BEq α] [LawfulBEq α] (a b : α) : (a == b) = decide (a = b) := by
  by_cases h : a = b
  · subst h; simp
  · simp [h]
theorem dat_int {K : PySem.W.Frag} : Dat K dI PyData.int 0 := ⟨fun a F H v _ h => (show v = .int a from h) ▸ .int a, fun _ _ _ _ => by simp only [PyData.canLay0], fun _ => by simp only [PyData.depth]; omega, fun a b => by simp only [PyData.eqv]; exact beq_dec a b⟩
theorem dat_str {K : PySem.W.Frag} : Dat K dS PyData.str 0 := ⟨fun a F H v _ h => h.1 ▸ .str a, fun _ _ _ h => by simp only [PyData.canLay0]; exact h.2.1, fun _ => by simp only [PyData.depth]; omega, fun a b => by simp only [PyData.eqv]; exact beq_dec a b⟩
section
variable {α β γ δ : Type} [DecidableEq α] [DecidableEq β] [DecidableEq γ] [DecidableEq δ] {K : PySem.W.Frag} {f : α → D} {g : β → D} {h : γ → D} {i : δ → D} {p : α → PyData} {q : β → PyData} {r : γ → PyData} {s : δ → PyData} {n m k l : Nat}
theorem Dat.all (t : Dat K f p n) {F H : Hp} (e : Gw F H) : ∀ {xs : List α} {vs : List V}, AllD F (xs.map f) vs → DpAll K H vs (xs.map p)
  | [], [], _ => .nil
  | _ :: _, _ :: _, h => .cons (t.ok _ F H _ e h.1) (Dat.all t e h.2)
  | [], _ :: _, h => h.elim
  | _ :: _, [], h => h.elim
theorem Dat.lays (t : Dat K f p n) {F : Hp} : ∀ {xs : List α} {vs : List V}, AllD F (xs.map f) vs → PyData.canLayAll0 (xs.map p) = true
  | [], [], _ => by simp only [List.map_nil, PyData.canLayAll0]
  | x :: xs, v :: vs, h => by simp only [List.map_cons, PyData.canLayAll0, t.lay x F v h.1, Dat.lays t h.2, Bool.and_self]
  | [], _ :: _, h => h.elim
  | _ :: _, [], h => h.elim
theorem Dat.deps (t : Dat K f p n) : ∀ xs : List α, PyData.depthAll (xs.map p) ≤ n
  | [] => by simp only [List.map_nil, PyData.depthAll]; omega
  | x :: xs => by
    have h1 := t.dep x
    have h2 := Dat.deps t xs
    simp only [List.map_cons, PyData.depthAll]
    omega
theorem Dat.eqs (t : Dat K f p n) : ∀ xs ys : List α, PyData.eqvAll (xs.map p) (ys.map p) = decide (xs = ys)
  | [], [] => by simp only [List.map_nil, PyData.eqvAll, decide_true]
  | [], _ :: _ => by simp only [List.map_nil, List.map_cons, PyData.eqvAll]; rfl
  | _ :: _, [] => by simp only [List.map_nil, List.map_cons, PyData.eqvAll]; rfl
  | x :: xs, y :: ys => by
    simp only [List.map_cons, PyData.eqvAll, t.eq x y, Dat.eqs t xs ys]
    by_cases h1 : x = y
    · subst h1
      by_cases h2 : xs = ys
      · subst h2; simp
      · simp [h2]
    · simp [h1]
theorem dat_lst (t : Dat K f p n) : Dat K (dLo K f) (fun xs => PyData.list (xs.map p)) (n + 1) := by
  refine ⟨fun a F H v e h => ?_, fun a F v h => by obtain ⟨_, _, _, _, h3⟩ := h; simp only [PyData.canLay0]; exact t.lays h3, fun a => by have := t.deps a; simp only [PyData.depth]; omega, fun a b => by simp only [PyData.eqv]; exact t.eqs a b⟩
  obtain ⟨x, vs, rfl, h2, h3⟩ := h
  exact .lst (gw_l e h2.sq) (t.all e h3)
theorem dat_vtup (t : Dat K f p n) : Dat K (dVt K f) (fun xs => PyData.tuple (xs.map p)) (n + 1) := by
  refine ⟨fun a F H v e h => ?_, fun a F v h => by obtain ⟨_, _, _, _, h3⟩ := h; simp only [PyData.canLay0]; exact t.lays h3, fun a => by have := t.deps a; simp only [PyData.depth]; omega, fun a b => by simp only [PyData.eqv]; exact t.eqs a b⟩
  obtain ⟨x, vs, rfl, h2, h3⟩ := h
  exact .tup (gw_t e h2) (t.all e h3)
theorem dat_t3 (t : Dat K f p n) (u : Dat K g q n) (w : Dat K h r n) : Dat K (dT3 K f g h) (fun x => PyData.tuple [p x.1, q x.2.1, r x.2.2]) (n + 1) := by
  refine ⟨fun a F H v e h => ?_, fun a F v h => ?_, fun a => by have h1 := t.dep a.1; have h2 := u.dep a.2.1; have h3 := w.dep a.2.2; simp only [PyData.depth, PyData.depthAll]; omega, fun a b => ?_⟩
  · obtain ⟨x, vs, rfl, h2, h3⟩ := h
    match vs, h3 with
    | [v1, v2, v3], h3 => exact .tup (gw_t e h2) (.cons (t.ok _ F H _ e h3.1) (.cons (u.ok _ F H _ e h3.2.1) (.cons (w.ok _ F H _ e h3.2.2.1) .nil)))
    | [], h3 => exact h3.elim
    | [_], h3 => exact h3.2.elim
    | [_, _], h3 => exact h3.2.2.elim
    | _ :: _ :: _ :: _ :: _, h3 => exact h3.2.2.2.elim
  · obtain ⟨_, vs, _, _, h3⟩ := h
    match vs, h3 with
    | [v1, v2, v3], h3 => simp only [PyData.canLay0, PyData.canLayAll0, t.lay _ F _ h3.1, u.lay _ F _ h3.2.1, w.lay _ F _ h3.2.2.1, Bool.and_self]
    | [], h3 => exact h3.elim
    | [_], h3 => exact h3.2.elim
    | [_, _], h3 => exact h3.2.2.elim
    | _ :: _ :: _ :: _ :: _, h3 => exact h3.2.2.2.elim
  · simp only [PyData.eqv, PyData.eqvAll, t.eq, u.eq, w.eq, Bool.and_true]
    obtain ⟨a1, a2, a3⟩ := a
    obtain ⟨b1, b2, b3⟩ := b
    rw [← Bool.decide_and, ← Bool.decide_and]
    exact decide_eq_decide.mpr (by simp)
theorem Dat.up (t : Dat K f p n) (hm : n ≤ m) : Dat K f p m := ⟨t.ok, t.lay, fun a => Nat.le_trans (t.dep a) hm, t.eq⟩
theorem Dat.shaped (t : Dat K f p n) (hn : n ≤ 64) (a : α) {F : Hp} {v : V} (h : (f a).ok F v) : SeqAt.shaped (p a) = true := by
  have h1 := t.lay a F v h
  have h2 := t.dep a
  show (PyData.canLay0 (p a) && decide (PyData.depth (p a) ≤ 64)) = true
  rw [h1, decide_eq_true (by omega)]
  rfl
end
section
variable {G : Cfg} {C : Sc} {Γ : Fr} {O : Own} {α : Type} [DecidableEq α] {f : α → D} {p : α → PyData} {n : Nat} {a b : α}
theorem c_neDat (t : Dat G.K f p n) (hn : n ≤ 64) : CmpR G C .NotEq O (f a) (f b) (!decide (a = b)) := ⟨fun X c => ⟨_, op_neD c.units, fun F H v u hh h1 h2 Q q => by
  refine ⟨p a, p b, by rw [c.K]; exact t.ok a F H v hh.ex h1, by rw [c.K]; exact t.ok b F H u hh.ex h2, t.shaped hn a h1, t.shaped hn b h2, ?_⟩
  rw [t.eq]
  exact q F H _ (Gw.refl F) hh rfl⟩⟩
theorem Dat.any (t : Dat G.K f p n) (a : α) : ∀ xs : List α, ((xs.map p).any fun z => PyData.eqv z (p a)) = decide (a ∈ xs)
  | [] => by simp
  | y :: ys => by
    rw [List.map_cons, List.any_cons, t.eq, Dat.any t a ys, ← Bool.decide_or]
    exact decide_eq_decide.mpr ⟨fun h => List.mem_cons.mpr (h.imp Eq.symm id), fun h => (List.mem_cons.mp h).imp Eq.symm id⟩
theorem dat_t4 {α β γ δ : Type} [DecidableEq α] [DecidableEq β] [DecidableEq γ] [DecidableEq δ] {K : PySem.W.Frag} {f : α → D} {g : β → D} {h : γ → D} {i : δ → D} {p : α → PyData} {q : β → PyData} {r : γ → PyData} {s : δ → PyData} {n : Nat} (t : Dat K f p n) (u : Dat K g q n) (w : Dat K h r n) (z : Dat K i s n) : Dat K (dT4 K f g h i) (fun x => PyData.tuple [p x.1, q x.2.1, r x.2.2.1, s x.2.2.2]) (n + 1) := by
  have four : ∀ {F : Hp} {d1 d2 d3 d4 : D} {vs : List V}, AllD F [d1, d2, d3, d4] vs → ∃ v1 v2 v3 v4, vs = [v1, v2, v3, v4] ∧ d1.ok F v1 ∧ d2.ok F v2 ∧ d3.ok F v3 ∧ d4.ok F v4 := by
    intro F d1 d2 d3 d4 vs h
    match vs, h with
    | [v1, v2, v3, v4], h => exact ⟨v1, v2, v3, v4, rfl, h.1, h.2.1, h.2.2.1, h.2.2.2.1⟩
    | [], h => exact h.elim
    | [_], h => exact h.2.elim
    | [_, _], h => exact h.2.2.elim
    | [_, _, _], h => exact h.2.2.2.elim
    | _ :: _ :: _ :: _ :: _ :: _, h => exact h.2.2.2.2.elim
  refine ⟨fun a F H v e h => ?_, fun a F v h => ?_, fun a => by have h1 := t.dep a.1; have h2 := u.dep a.2.1; have h3 := w.dep a.2.2.1; have h4 := z.dep a.2.2.2; simp only [PyData.depth, PyData.depthAll]; omega, fun a b => ?_⟩
  · obtain ⟨x, vs, rfl, h2, h3⟩ := h
    obtain ⟨v1, v2, v3, v4, rfl, q1, q2, q3, q4⟩ := four h3
    exact .tup (gw_t e h2) (.cons (t.ok _ F H _ e q1) (.cons (u.ok _ F H _ e q2) (.cons (w.ok _ F H _ e q3) (.cons (z.ok _ F H _ e q4) .nil))))
  · obtain ⟨x, vs, rfl, h2, h3⟩ := h
    obtain ⟨v1, v2, v3, v4, rfl, q1, q2, q3, q4⟩ := four h3
    simp only [PyData.canLay0, PyData.canLayAll0, t.lay _ F _ q1, u.lay _ F _ q2, w.lay _ F _ q3, z.lay _ F _ q4, Bool.and_self]
  · simp only [PyData.eqv, PyData.eqvAll, t.eq, u.eq, w.eq, z.eq, Bool.and_true]
    obtain ⟨a1, a2, a3, a4⟩ := a
    obtain ⟨b1, b2, b3, b4⟩ := b
    rw [← Bool.decide_and, ← Bool.decide_and, ← Bool.decide_and]
    exact decide_eq_decide.mpr (by simp)
end
end Kn
namespace Kn
open PySem PySem.Spec L2
abbrev AlM : Type := He.AlD × Bool
def obsM (n : Nat) (fa : List He.Fa) (fn : List He.DefD) (ex : PySem.W.Frag → Bool) (g : Addr → Option Obj) : AlM := lt (He.frG g (He.asD g n)) fun K => (He.obsD fa fn K, ex K)
structure SaysM (fa : List He.Fa) (fn : List He.DefD) (ex : PySem.W.Frag → Bool) (K : PySem.W.Frag) : Prop where
  d : He.SaysD fa fn K
  m : ex K = true
def hookM (n : Nat) (fa : List He.Fa) (fn : List He.DefD) (ex : PySem.W.Frag → Bool) : PySem.W.Hook where
  α := AlM
  obs := fun s => obsM n fa fn ex s.heap.get?
  val := fun _ => (He.valD fn, true)
  says := fun _ h => ∃ K : PySem.W.Frag, K.In h ∧ SaysM fa fn ex K
  of := fun _ _ e => ⟨_, He.frG_in, ⟨congrArg (fun z : AlM => z.1) e, congrArg (fun z : AlM => z.2) e⟩⟩
  keeps := fun _ _ _ ⟨K, hK, c⟩ k => ⟨K, PySem.W.Frag.In.keeps hK k, c⟩
theorem obsM_eq {n : Nat} {fa : List He.Fa} {fn : List He.DefD} {ex : PySem.W.Frag → Bool} {g : Addr → Option Obj} {s : Shared} (h : ∀ a, g a = s.heap.get? a) : obsM n fa fn ex g = (hookM n fa fn ex).obs s := by
  have e : g = s.heap.get? := funext h
  rw [e]
  rfl
theorem walk_kn {l : PySem.W.OpenLaw} {n k : Nat} {q : Program} {loose : List Str} {XP : (Str → Option Value) → Heap → Prop} {YP : World → Heap → Prop} {d : DefRec} {x : Str}
    (hn : l.most = some n) (hn2 : n ≤ sizeLine) (hdf : d.params.defaults = []) (hr : Room k callerA)
    (F : ∀ (w : World) (mg : Str → Option Value) (fa : Addr) (h : Heap), YP w h → h.Ns mainGlobals mg → mg d.name = some (.ref fa) →
      ∃ (K : PySem.W.Frag) (fd : FuncData) (S : SpecD), K.In h ∧ (∀ (s : Shared) (u : Value), BindsTo s fd ⟨[u], []⟩ [(x, u)]) ∧
        (∀ ns : List Int, ns.length ≤ n → S [dLst K (ns.map dI)] [] (RK.val (dB true) [])) ∧
        ∀ base : Heap, K.In base → base.Ns mainGlobals mg → FnOk l.prog w K mg base (CX l.prog w) k fa fd [x] (spD S)) :
    PySem.W.WalkO q loose XP YP l.row.toRowW d [] (fun f vs => PySem.call f vs) := by
  refine Att.attach_call hn hdf fun w s₀ s₁ mg mb fa o pm cd doc a vs ns G Y ho hd hcd hmg hobj hints hlen hg => ?_
  obtain ⟨K, fd, S, KX, hb, hsp, hF⟩ := F w mg fa _ Y G.T.g hmg
  refine law_call KX G.T.g G.T.b G.T.builtins G.T.nolimit hg hobj hints (Nat.le_trans hlen hn2) hr hF hb (fun H hO hS => ?_) fun H e s' h => by
    obtain ⟨_, _, _, _, _, _, _, _, _, _, _, _, z⟩ := h
    exact z.elim
  have hl : LsA K H a (ns.map V.int) := by
    rcases hS with hS | ⟨o, its, m, hk, h1, h2, h3, h4, h5⟩
    · exact .inl hS
    · have e := KX a o hk
      rw [hobj] at e
      cases e
      cases h3
      exact .inr ⟨_, _, hk, h4, h5⟩
  refine ⟨_, [], _, H, hsp ns hlen, ⟨Gw.refl H, List.nodup_nil, fun q hq => by cases hq⟩, ⟨⟨a, ns.map V.int, rfl, hl, ?_⟩, trivial⟩, fun v H' hv => ?_, fun _ _ _ z => z⟩
  · rw [map_dI]
    exact allD_dV _
  · obtain ⟨F', _, _, hv⟩ := hv
    exact hv
theorem tab_str {K : PySem.W.Frag} {x : Str} {l : List Str} (h : He.tupB K x (l.map He.Dv.str) = true) (H : Hp) : SqT K H (He.ga K x) (l.map V.str) := by
  have a := He.tupB_ok h H
  rw [List.map_map] at a
  exact a
theorem def_of {K : PySem.W.Frag} {P : Program} {w : World} {mg : Str → Option Value} {base h : Heap} {fa : List He.Fa} {fn : List He.DefD} (X : K.In h) (Gm : h.Ns mainGlobals mg) (c : He.SaysD fa fn K) {i j : Nat} {x : Str} {st : Stmt} (hd : fn[i]? = some ⟨(x, none), x, x, defArgs st, defBody st, defScope st, [], []⟩) (hf : fa[j]? = some (.glo x)) : Def ⟨P, w, K, mg, base⟩ x st := by
  obtain ⟨fd, F⟩ := c.def_ i hd
  exact ⟨He.fAd K (x, none), fd, F, He.glo_ok X Gm (c.fact j hf)⟩
end Kn
namespace Kn
open PySem PySem.Spec L2
structure ClsAt (G : Cfg) (x : Str) (C : Addr) : Prop where
  mg : G.mg x = some (.ref C)
  cl : Cls G.K C
theorem ClsAt.same {G : Cfg} {x : Str} {C C' : Addr} (a : G.mg x = some (.ref C)) (b : G.mg x = some (.ref C')) : C = C' := by
  have e := a.symm.trans b
  cases e
  rfl
def NoAt (G : Cfg) (x f : Str) : Prop := ∃ C, G.mg x = some (.ref C) ∧ NoAttr G.K C f
def dIns (G : Cfg) (x : Str) (ns : List Str) (ds : List D) : D := ⟨fun F v => ∃ a C dx vs, v = .ref a ∧ ClsAt G x C ∧ F a = some (.ins C dx (ns.zip vs)) ∧ ds.length = ns.length ∧ AllD F ds vs, fun e ⟨a, C, dx, vs, h1, h2, h3, h4, h5⟩ => ⟨a, C, dx, vs, h1, h2, e a _ h3, h4, AllD.mono e h5⟩⟩
def oIns (G : Cfg) (x : Str) (ns : List Str) (ds : List D) : OD := ⟨fun F o => ∃ C dx vs, o = .ins C dx (ns.zip vs) ∧ ClsAt G x C ∧ ds.length = ns.length ∧ AllD F ds vs, fun e ⟨C, dx, vs, h1, h2, h3, h4⟩ => ⟨C, dx, vs, h1, h2, h3, AllD.mono e h4⟩⟩
theorem zip_lookup : ∀ {ns : List Str} {vs : List V} {i : Nat} {f : Str} {v : V}, ns.Nodup → ns[i]? = some f → vs[i]? = some v → (ns.zip vs).lookup f = some v
  | [], _, i, f, v, _, h, _ => by simp at h
  | _ :: _, [], i, f, v, _, _, h => by simp at h
  | n :: ns, u :: vs, 0, f, v, _, h1, h2 => by
    simp at h1 h2
    subst h1 h2
    simp [List.lookup]
  | n :: ns, u :: vs, i + 1, f, v, hn, h1, h2 => by
    obtain ⟨h3, h4⟩ := List.nodup_cons.mp hn
    have h1' : ns[i]? = some f := by simpa using h1
    have hne : (f == n) = false := beq_eq_false_iff_ne.mpr fun e => h3 (e ▸ List.mem_of_getElem? h1')
    rw [List.zip_cons_cons]
    show (match f == n with | true => some u | false => (ns.zip vs).lookup f) = _
    rw [hne]
    exact zip_lookup h4 h1' (by simpa using h2)
theorem zip_none : ∀ {ns : List Str} {vs : List V} {f : Str}, ns.contains f = false → (ns.zip vs).lookup f = none
  | [], _, f, _ => by simp
  | _ :: _, [], f, _ => by simp
  | n :: ns, u :: vs, f, h => by
    rw [List.contains_cons, Bool.or_eq_false_iff] at h
    rw [List.zip_cons_cons]
    show (match f == n with | true => some u | false => (ns.zip vs).lookup f) = _
    rw [h.1]
    exact zip_none h.2
theorem zip_put : ∀ {ns : List Str} {vs : List V} {f : Str} {y : V}, ns.contains f = false → vs.length = ns.length → putF f y (ns.zip vs) = (ns ++ [f]).zip (vs ++ [y])
  | [], [], f, y, _, _ => rfl
  | [], _ :: _, f, y, _, h => by simp at h
  | _ :: _, [], f, y, _, h => by simp at h
  | n :: ns, u :: vs, f, y, h, hl => by
    rw [List.contains_cons, Bool.or_eq_false_iff] at h
    have hne : ¬ n = f := fun e => by
      have := h.1
      rw [e] at this
      simp at this
    rw [List.zip_cons_cons, List.cons_append, List.cons_append, List.zip_cons_cons]
    show (if n = f then (n, y) :: ns.zip vs else (n, u) :: putF f y (ns.zip vs)) = _
    rw [if_neg hne, zip_put h.2 (by simpa using hl)]
structure CalM (G : Cfg) (k : Nat) (x m : Str) (S : SpecD) : Prop where
  ex : ∃ (C f : Addr) (fd : FuncData) (ps : List Str), ClsAt G x C ∧ Meth G.K C m f ∧ FnOk G.P G.w G.K G.mg G.base (CX G.P G.w) k f fd ps (spD S) ∧ Binds G.K fd ps []
structure CalI (G : Cfg) (k : Nat) (x : Str) (S : SpecD) : Prop where
  ex : ∃ (C f : Addr) (fd : FuncData) (ps : List Str), ClsAt G x C ∧ Mk G.K C f ∧ FnOk G.P G.w G.K G.mg G.base (CX G.P G.w) k f fd ps (spD S) ∧ Binds G.K fd ps []
structure DefM (G : Cfg) (x m q : Str) (st : Stmt) : Prop where
  ex : ∃ (C f : Addr) (fd : FuncData), ClsAt G x C ∧ Meth G.K C m f ∧ FunD G.K m q (defArgs st) (defBody st) (defScope st) [] [] f fd
structure DefI (G : Cfg) (x q : Str) (st : Stmt) : Prop where
  ex : ∃ (C f : Addr) (fd : FuncData), ClsAt G x C ∧ Mk G.K C f ∧ FunD G.K "__init__" q (defArgs st) (defBody st) (defScope st) [] [] f fd
theorem fn_okP {G : Cfg} {x qual : Str} {params : Arguments} {body : List Stmt} {scope : Scope} {f : Addr} {fd : FuncData} {N ps : List Str} {k : Nat} {S : SpecD} (F : FunD G.K x qual params body scope [] [] f fd) (sc : FnScope N ps scope)
    (len : ∀ ds O rk, S ds O rk → ds.length = ps.length)
    (hb : ∀ ds O rk, S ds O rk → ∃ (S1 R : Type) (ek : Ek S1 R) (s : S1), SS G ⟨k, N, scope, true, true⟩ body (frame0 N ds) O ek (.nx s) ∧ ∀ F σ H, (ek.fs s).ok F σ H → rk.ok F .non H) : FnOk G.P G.w G.K G.mg G.base (CX G.P G.w) (k + 1) f fd ps (spD S) := by
  obtain ⟨P, w, K, mg, base⟩ := G
  refine F.ok sc (fun vs H Q E h => ?_) (fun cdv A outer s H vs Q E hr h => ?_)
  · obtain ⟨ds, O, rk, F0, hS, hO, ha, _⟩ := h
    rw [AllD.length ha]
    exact len ds O rk hS
  · obtain ⟨ds, O, rk, F0, hS, hO, ha, hq, _⟩ := h
    obtain ⟨S1, R, ek, st, hss, hrk⟩ := hb ds O rk hS
    refine ⟨_, pss_can, hss.run _ (inC_of hr) _ (takes_of rfl rfl rfl rfl) F0 _ H ⟨frame_start ha, hO⟩ _ ?_⟩
    intro σ H' hv
    exact hq .non H' (hrk F0 σ H' hv)
section
variable {G : Cfg} {x m q : Str} {st : Stmt} {N ps : List Str} {k : Nat} {S : SpecD}
theorem DefM.callee (d : DefM G x m q st) (sc : FnScope N ps (defScope st)) (len : ∀ ds O rk, S ds O rk → ds.length = ps.length)
    (hbind : ∀ (kV doc pm : Value) (an : Option Addr) (cdv ct : Value) (us : List Value), us.length = ps.length → bindArgs (PySem.W.fnOf m q (defArgs st) (defBody st) (defScope st) .none kV doc pm an cdv ct) ⟨us, []⟩ = pure (ps.zip us))
    (hb : ∀ ds O rk, S ds O rk → ∃ (S1 R : Type) (ek : Ek S1 R) (r : R), SS G ⟨k, N, defScope st, true, true⟩ (defBody st) (frame0 N ds) O ek (.rt r) ∧ ek.rs r = rk) : CalM G (k + 1) x m S := by
  obtain ⟨C, f, fd, hC, hm, F⟩ := d.ex
  exact ⟨C, f, fd, ps, hC, hm, fn_ok F sc len hb, F.bindsN hbind⟩
theorem DefI.callee (d : DefI G x q st) (sc : FnScope N ps (defScope st)) (len : ∀ ds O rk, S ds O rk → ds.length = ps.length)
    (hbind : ∀ (kV doc pm : Value) (an : Option Addr) (cdv ct : Value) (us : List Value), us.length = ps.length → bindArgs (PySem.W.fnOf "__init__" q (defArgs st) (defBody st) (defScope st) .none kV doc pm an cdv ct) ⟨us, []⟩ = pure (ps.zip us))
    (hb : ∀ ds O rk, S ds O rk → ∃ (S1 R : Type) (ek : Ek S1 R) (s : S1), SS G ⟨k, N, defScope st, true, true⟩ (defBody st) (frame0 N ds) O ek (.nx s) ∧ ∀ F σ H, (ek.fs s).ok F σ H → rk.ok F .non H) : CalI G (k + 1) x S := by
  obtain ⟨C, f, fd, hC, hm, F⟩ := d.ex
  exact ⟨C, f, fd, ps, hC, hm, fn_okP F sc len hb, F.bindsN hbind⟩
end
def spD0 (S : SpecD) : Sp := fun vs H Q _ => ∃ ds O rk F, S ds O rk ∧ HoldO F O H ∧ AllD F ds vs ∧ (∀ v H', rk.ok F v H' → Q v H') ∧ rk.NoX
theorem fok0 {G : Cfg} {k : Nat} {f : Addr} {fd : FuncData} {ps : List Str} {S : SpecD} (F : FnOk G.P G.w G.K G.mg G.base (CX G.P G.w) k f fd ps (spD S)) : FnOk G.P G.w G.K G.mg G.base CX0 k f fd ps (spD0 S) := by
  have key : ∀ vs H Q E, spD0 S vs H Q E → spD S vs H Q E0 := fun vs H Q E ⟨ds, O, rk, F0, a, b, c, d, e⟩ => ⟨ds, O, rk, F0, a, b, c, d, fun _ _ _ z => (e _ _ _ _ z).elim⟩
  refine ⟨fun vs H Q E h => F.len vs H Q E0 (key vs H Q E h), fun A outer s H args us vs Q E hr he hb hv h => codeAny_mono (F.run A outer s H args us vs Q E0 hr he hb hv (key vs H Q E h)) fun r s' q => ?_⟩
  cases r with
  | ok fl => cases fl <;> exact q
  | error e =>
    obtain ⟨_, _, _, _, _, _, _, _, _, _, _, _, z⟩ := (show CX G.P G.w outer H s E0 e s' from q)
    exact z.elim
def dFn (G : Cfg) (k : Nat) (S : SpecD) : D := ⟨fun _ v => ∃ (f : Addr) (fd : FuncData) (ps : List Str), v = .ref f ∧ FnOk G.P G.w G.K G.mg G.base (CX G.P G.w) k f fd ps (spD S) ∧ PySem.W.keepIn G.K (.ref f) = true ∧ Binds G.K fd ps [], fun _ h => h⟩
section
variable {G : Cfg} {C : Sc} {Γ : Fr} {O : Own} {S1 R B : Type} {kk : Ek S1 R} {oo : Out S1 R} {e a b c o : Expr} {es : List Expr} {d da db : D} {ds fs : List D} {ss ta : List Stmt} {pos p1 p2 p3 : Pos} {x f m y : Str} {α β : Type} {ns : List Str} {S : SpecD} {k n : Nat} {p : Addr} {od : OD}
theorem e_fld {i : Nat} (ho : E G C o Γ O (dIns G x ns ds)) (nd : ns.Nodup) (hf : ns[i]? = some f) (hd : ds[i]? = some d) (na : NoAt G x f) (hb : ∀ env, attributeBase o f env (eval o env) = eval o env) : E G C (.Attribute o f pos) Γ O d := .mk fun X c F σ H hh Q q => by
  refine we_of (pe_fld pe_can (hb X.env)) (ho.run X c F σ H hh _ fun F1 H1 v e1 h1 d1 => ?_)
  obtain ⟨a, Cl, dx, vs, rfl, hC, ha, hl, hv⟩ := d1
  obtain ⟨C2, h2, h3⟩ := na
  have e := ClsAt.same hC.mg h2
  subst e
  obtain ⟨u, hu, du⟩ := AllD.get hv hd
  exact ⟨a, Cl, dx, _, u, rfl, h1.ho.ex a _ ha, by rw [c.K]; exact hC.cl, by rw [c.K]; exact h3, zip_lookup nd hf hu, q F1 H1 u e1 h1 du⟩
theorem we_meth0 [Calm C] {rk : RK} (cal : CalM G k x m S) (hk : k ≤ C.k) (ho : E G C o Γ O (dIns G x ns fs)) (hn : ns.contains m = false) (hS : S [dIns G x ns fs] O rk)
    (ht : ∀ env, ∃ pl, eval (.Call (.Attribute o m p1) [] [] pos) env = (do
      let ov ← eval o env
      standAt p1.atName
      let (f, first) ← holding [ov] (getMethod ov m pl)
      callWith pos f first (backTo pos (starEach [] env)) (backToKw pos (keywordEach [] env)))) {X : Cx} (c : InC G C X) {F : Hp} {σ : L2.St} {H : Hp} (hh : Hold F Γ O σ H) {Q : VK} (q : ∀ F1 v H', Gw F F1 → FrOk F1 Γ σ → rk.ok F1 v H' → Q v H') (hx : rk.NoX := by exact fun _ _ _ _ z => z) : WE X (.Call (.Attribute o m p1) [] [] pos) σ H Q := by
  obtain ⟨Cl, f, fd, ps, hC, hm, Fn, bi⟩ := cal.ex
  have Fn' : FnOk X.prog X.w X.K X.mg X.base (CX X.prog X.w) k f fd ps (spD S) := by rw [c.p, c.w, c.K, c.mg, c.base]; exact Fn
  obtain ⟨pl, ht'⟩ := ht X.env
  refine we_of (pe_meth0 (dvs := []) (E := E0) (pl := pl) pe_can (by rw [c.K]; exact hC.cl) (by rw [c.K]; exact hm) Fn' (c.room.mono hk) (by rw [c.K]; exact bi) .nil passL ht') (ho.run X c F σ H hh _ fun F0 H0 v e0 h0 d0 => ?_)
  obtain ⟨ad, C2, dx, us, rfl, hC2, hb, hl, hv⟩ := id d0
  have e2 := ClsAt.same hC.mg hC2.mg
  subst e2
  exact ⟨ad, dx, _, rfl, h0.ho.ex ad _ hb, zip_none hn, [dIns G x ns fs], O, rk, F0, hS, h0.ho, ⟨d0, trivial⟩, fun v H' hv => q F0 v H' e0 h0.fr hv, fun _ _ _ z => hx _ _ _ _ z⟩
abbrev MethTree (o : Expr) (m : Str) (p1 pos : Pos) (es : List Expr) : Prop := ∀ env, ∃ pl, eval (.Call (.Attribute o m p1) es [] pos) env = (do
      let ov ← eval o env
      standAt p1.atName
      let (f, first) ← holding [ov] (getMethod ov m pl)
      callWith pos f first (backTo pos (starEach es env)) (backToKw pos (keywordEach [] env)))
theorem en_meth0 [Calm C] (cal : CalM G k x m S) (hk : k ≤ C.k) (ho : E G C o Γ O (dIns G x ns fs)) (hn : ns.contains m = false) (hS : S [dIns G x ns fs] O (RK.new od O)) (ht : MethTree o m p1 pos []) : EN G C (.Call (.Attribute o m p1) [] [] pos) Γ O od := .mk fun X c F σ H hh Q q =>
  we_meth0 cal hk ho hn hS ht c hh fun F1 v H' e1 fr ⟨F2, p, e2, hv, h2⟩ => by subst hv; exact q F2 H' p (e1.trans e2) ⟨fr.mono e2, h2⟩
theorem e_fn (cal : Callee G k x S) (g : Glo C x) : E G C (.Name x pos) Γ O (dFn G k S) := .mk fun X c F σ H hh Q q => by
  obtain ⟨f, fd, ps, Fn, gx, kp, bi⟩ := cal.ex
  exact we_of (pe_glob (v := .ref f) (c.gl g) (by rw [c.mg]; exact gx) rfl g.2.1) (q F H _ (Gw.refl F) hh ⟨f, fd, ps, rfl, Fn, kp, bi⟩)
theorem e_callL [Calm C] {i : Nat} (v : Var C i x) (hi : Γ[i]? = some (some (dFn G k S))) (hk : k ≤ C.k) (hS : S ds O (RK.val d O)) (ha : A G C (e :: es) Γ O ds) (hs : ∀ env, starEach (e :: es) env = (false, eval e env) :: starEach es env) : E G C (.Call (.Name x p1) (e :: es) [] pos) Γ O d := .mk fun X c F σ H hh Q q => by
  obtain ⟨u, hu, f, fd, ps, rfl, Fn, kp, bi⟩ := hh.fr.2 i _ hi
  have cal : C8.CalAt X.prog X.w X.K X.mg X.base k f (spD0 S) := by rw [c.p, c.w, c.K, c.mg, c.base]; exact ⟨fd, ps, fok0 Fn, kp, bi⟩
  refine we_of (C8.pe_cv cal cal c.room hk hk (by rw [c.n]; exact v.n) (by rw [c.sc]; exact v.v) pa_can v.d v.c (hs X.env) ?_) (.inl ⟨hu, ha.run X c F σ H hh _ fun F1 H1 vs e1 h1 d1 => ?_⟩)
  · have a := ha.bt pos X.env
    rw [hs] at a
    unfold backTo at a ⊢
    rw [List.map_cons, List.any_cons] at a
    exact (Bool.or_eq_false_iff.mp a).2
  · refine ⟨ds, O, _, F1, hS, h1.ho, d1, fun v H' hv => ?_, fun _ _ _ _ z => z⟩
    obtain ⟨F2, e2, h2, d2⟩ := hv
    exact q F2 H' v (e1.trans e2) ⟨h1.fr.mono e2, h2⟩ d2
theorem ss_skip (h : T G C c Γ O false) (hr : SS G C ss Γ O kk oo) : SS G C (.If c ta [] pos :: ss) Γ O kk oo := .mk fun X c0 W tk F σ H hh D mm =>
  wss_of (t := tSeq (tIfS (WT X c) (WSs X ta) tNext) (WSs X ss)) (pss_cons (ps_if pt_can pss_can pss_nil) pss_can) (h.run X c0 F σ H hh _ fun F1 H1 e1 h3 =>
    iteF (hr.run X c0 W tk F1 σ H1 h3 D (meet.mono e1 mm)))
end
end Kn
namespace Kn
open PySem PySem.Spec L2
def inClass (st : Stmt) (j : Nat) : Stmt := match st with
  | .ClassDef (body := b) .. => b.getD j (.Pass ⟨0, 0, 0, 0⟩)
  | _ => .Pass ⟨0, 0, 0, 0⟩
section
variable {K : PySem.W.Frag} {P : Program} {w : World} {mg : Str → Option Value} {base h : Heap} {fa : List He.Fa} {fn : List He.DefD} {i j k l : Nat} {x m q : Str} {st : Stmt}
theorem clsAt_of (X : K.In h) (Gm : h.Ns mainGlobals mg) (c : He.SaysD fa fn K) (hf : fa[j]? = some (.glo x)) (hc : fa[k]? = some (.cls x)) : ClsAt ⟨P, w, K, mg, base⟩ x (He.ga K x) :=
  ⟨He.glo_ok X Gm (c.fact j hf), He.cls_ok (c.fact k hc)⟩
theorem defM_of (X : K.In h) (Gm : h.Ns mainGlobals mg) (c : He.SaysD fa fn K) (hd : fn[i]? = some ⟨(x, some m), m, q, defArgs st, defBody st, defScope st, [], []⟩) (hf : fa[j]? = some (.glo x)) (hc : fa[k]? = some (.cls x)) (hm : fa[l]? = some (.meth x m)) : DefM ⟨P, w, K, mg, base⟩ x m q st := by
  obtain ⟨fd, F⟩ := c.def_ i hd
  exact ⟨He.ga K x, He.fAd K (x, some m), fd, clsAt_of X Gm c hf hc, He.meth_ok (c.fact l hm), F⟩
theorem defI_of (X : K.In h) (Gm : h.Ns mainGlobals mg) (c : He.SaysD fa fn K) (hd : fn[i]? = some ⟨(x, some "__init__"), "__init__", q, defArgs st, defBody st, defScope st, [], []⟩) (hf : fa[j]? = some (.glo x)) (hc : fa[k]? = some (.cls x)) (hm : fa[l]? = some (.mkr x)) : DefI ⟨P, w, K, mg, base⟩ x q st := by
  obtain ⟨fd, F⟩ := c.def_ i hd
  exact ⟨He.ga K x, He.fAd K (x, some "__init__"), fd, clsAt_of X Gm c hf hc, He.mkr_ok (c.fact l hm), F⟩
theorem noat_of (X : K.In h) (Gm : h.Ns mainGlobals mg) (c : He.SaysD fa fn K) (hf : fa[j]? = some (.glo x)) (hm : fa[k]? = some (.noat x m)) : NoAt ⟨P, w, K, mg, base⟩ x m :=
  ⟨He.ga K x, He.glo_ok X Gm (c.fact j hf), He.noat_ok (c.fact k hm)⟩
end
end Kn
namespace Kn
open PySem PySem.Spec L2
section
variable {κ α : Type} [DecidableEq κ]
def dHas (kvs : List (κ × α)) (k : κ) : Bool := kvs.any fun q => decide (q.1 = k)
def dPut (kvs : List (κ × α)) (k : κ) (v : α) : List (κ × α) := if dHas kvs k then kvs.map (fun q => if q.1 = k then (q.1, v) else q) else kvs ++ [(k, v)]
end
section
variable {κ α KT : Type}
def AllK (F : Hp) (kk : κ → KT) (f : α → D) : List (κ × α) → List (KT × V) → Prop
  | [], [] => True
  | q :: r, u :: s => u.1 = kk q.1 ∧ (f q.2).ok F u.2 ∧ AllK F kk f r s
  | _, _ => False
theorem AllK.mono {F F' : Hp} {kk : κ → KT} {f : α → D} (e : Gw F F') : ∀ {kvs : List (κ × α)} {us : List (KT × V)}, AllK F kk f kvs us → AllK F' kk f kvs us
  | [], [], _ => trivial
  | _ :: _, _ :: _, h => ⟨h.1, D.mono _ e h.2.1, AllK.mono e h.2.2⟩
  | [], _ :: _, h => h.elim
  | _ :: _, [], h => h.elim
theorem AllK.length {F : Hp} {kk : κ → KT} {f : α → D} : ∀ {kvs : List (κ × α)} {us : List (KT × V)}, AllK F kk f kvs us → us.length = kvs.length
  | [], [], _ => rfl
  | _ :: _, _ :: _, h => by simp [AllK.length h.2.2]
  | [], _ :: _, h => h.elim
  | _ :: _, [], h => h.elim
variable [DecidableEq κ] [DecidableEq KT]
theorem AllK.map {F : Hp} {kk : κ → KT} {f : α → D} (inj : ∀ a b, kk a = kk b ↔ a = b) {k : κ} {a : α} {v : V} (hv : (f a).ok F v) : ∀ {kvs : List (κ × α)} {us : List (KT × V)}, AllK F kk f kvs us → AllK F kk f (kvs.map fun q => if q.1 = k then (q.1, a) else q) (us.map fun u => if u.1 = kk k then (u.1, v) else u)
  | [], [], _ => trivial
  | q :: r, u :: s, h => by
    rw [List.map_cons, List.map_cons]
    by_cases hq : q.1 = k
    · have hu : u.1 = kk k := by rw [h.1, hq]
      rw [if_pos hq, if_pos hu]
      exact ⟨h.1, hv, AllK.map inj hv h.2.2⟩
    · have hu : ¬ u.1 = kk k := by
        rw [h.1]
        exact fun e => hq ((inj _ _).mp e)
      rw [if_neg hq, if_neg hu]
      exact ⟨h.1, h.2.1, AllK.map inj hv h.2.2⟩
  | [], _ :: _, h => h.elim
  | _ :: _, [], h => h.elim
end
section
variable {G : Cfg} {C : Sc} {Γ : Fr} {O : Own} {S1 R B : Type} {kk : Ek S1 R} {oo : Out S1 R} {e a b c : Expr} {es : List Expr} {d da db : D} {ss : List Stmt} {pos p1 p2 p3 : Pos} {x : Str} {κ α : Type} [DecidableEq κ] {ke : κ → Key} {f : α → D} {kvs : List (κ × α)} {key : κ} {n : Nat} {p : Addr} {inj : ∀ a b, ke a = ke b ↔ a = b}
end
def NotN {α : Type} (f : α → D) : Prop := ∀ (a : α) (F : Hp) (v : V), (f a).ok F v → v ≠ .non
theorem notN_I : NotN dI := fun a F v h e => by rw [e] at h; cases h
def vaO {α : Type} (f : α → Va) : Option α → Va
  | none => .non
  | some a => f a
section
variable {G : Cfg} {C : Sc} {Γ : Fr} {O : Own} {e a b c : Expr} {es : List Expr} {d da db : D} {pos p1 p2 p3 : Pos} {x : Str} {α β : Type} {f : α → D}
theorem c_isO {o : Option α} (hn : NotN f) : CmpR G C .Is O (dO f o) dN o.isNone := cmp_of (fun _ _ => op_isN) fun F H x y hh e1 e2 Q q => by
  refine ⟨e2, ?_⟩
  cases o with
  | none =>
    have h1 : x = .non := e1
    rw [h1]
    exact q F H _ (Gw.refl F) hh rfl
  | some z => exact q F H _ (Gw.refl F) hh (by
      have := hn z F x e1
      show V.bl (decide (x = V.non)) = V.bl false
      rw [decide_eq_false this])
theorem any_opt {p : α → Va} (hp : ∀ x, f x = dA G.K (p x)) (o : Option α) : dO f o = dA G.K (vaO p o) := by
  cases o with
  | none => exact dA_non.symm
  | some z => exact hp z
end
end Kn
namespace Kn
theorem dPut_len {κ α : Type} [DecidableEq κ] {kvs : List (κ × α)} {k : κ} {v : α} : (dPut kvs k v).length ≤ kvs.length + 1 := by
  unfold dPut
  split
  · rw [List.length_map]; omega
  · rw [List.length_append]; exact Nat.le_refl _
end Kn
namespace Kn
open PySem PySem.Spec PyProof.Rows L2
def nubS (xs : List Str) : List Str := xs.foldl (fun acc x => if x ∈ acc then acc else acc ++ [x]) []
theorem nub_snoc (xs : List Str) (x : Str) : nubS (xs ++ [x]) = if x ∈ nubS xs then nubS xs else nubS xs ++ [x] := by
  unfold nubS
  rw [List.foldl_append]
  rfl
theorem mem_nub {x : Str} : ∀ {xs : List Str}, x ∈ nubS xs ↔ x ∈ xs := by
  intro xs
  have go : ∀ (n : Nat) (ys : List Str), ys.length = n → (x ∈ nubS ys ↔ x ∈ ys) := by
    intro n
    induction n with
    | zero =>
      intro ys h
      rw [List.length_eq_zero_iff.mp h]
      exact Iff.rfl
    | succ n ih =>
      intro ys h
      have hne : ys ≠ [] := fun e => by rw [e] at h; cases h
      have e := List.dropLast_concat_getLast hne
      have hl : ys.dropLast.length = n := by rw [List.length_dropLast, h]; rfl
      have ih' := ih _ hl
      rw [← e, nub_snoc]
      by_cases hm : ys.getLast hne ∈ nubS ys.dropLast
      · rw [if_pos hm, List.mem_append, ih']
        constructor
        · exact .inl
        · rintro (h1 | h1)
          · exact h1
          · rw [List.mem_singleton] at h1
            subst h1
            exact ih'.mp hm
      · rw [if_neg hm, List.mem_append, List.mem_append, ih']
  exact go _ xs rfl
theorem nub_len (xs : List Str) : (nubS xs).length ≤ xs.length := by
  have h := foldl_meas (m := fun l : List Str => l.length) (c := 1) (f := fun acc x => if x ∈ acc then acc else acc ++ [x]) (fun s x => by
    by_cases hx : x ∈ s
    · rw [if_pos hx]; omega
    · rw [if_neg hx, List.length_append]; exact Nat.le_refl _) (xs := xs) (s0 := [])
  show (xs.foldl _ []).length ≤ _
  have h2 : ([] : List Str).length + 1 * xs.length = xs.length := by simp
  omega
theorem set_step {P : Program} {w : World} {h' : Heap} {a : Addr} {xs : List Str} {i : Nat} (hi : i < xs.length) (hs : h'.SetOf (PySem.strKind P w) a (fun k' => (xs.take i).any (· == k') || decide (k' = xs[i])) (if (xs.take i).any (· == xs[i]) = true then (nubS (xs.take i)).length else (nubS (xs.take i)).length + 1)) :
    h'.SetOf (PySem.strKind P w) a (fun k' => (xs.take (i + 1)).any (· == k')) (nubS (xs.take (i + 1))).length := by
  have ht : xs.take (i + 1) = xs.take i ++ [xs[i]] := List.take_succ_eq_append_getElem hi
  refine SetOf_congr hs (fun k => ?_) ?_
  · rw [ht, List.any_append, List.any_cons, List.any_nil, Bool.or_false]
    congr 1
    by_cases e : k = xs[i]
    · rw [e]; simp
    · rw [decide_eq_false e]
      exact (beq_eq_false_iff_ne.mpr fun z => e z.symm).symm
  · rw [ht, nub_snoc]
    have hm : (xs.take i).any (· == xs[i]) = true ↔ xs[i] ∈ nubS (xs.take i) := by
      rw [mem_nub, List.any_eq_true]
      constructor
      · rintro ⟨y, hy, e⟩
        rw [← eq_of_beq e]; exact hy
      · exact fun h => ⟨_, h, beq_self_eq_true _⟩
    by_cases hx : xs[i] ∈ nubS (xs.take i)
    · rw [if_pos hx, if_pos (hm.mpr hx)]
    · rw [if_neg hx, if_neg fun z => hx (hm.mp z), List.length_append]
      rfl
section
variable {P : Program} {w : World} {A : Around} {R : Result → Shared → Prop} {J : Addr} {fp wr : List Addr} {Gs : Array GenState → Array GenState → Prop} {n : Nat} {It : Nat → Value → Prop} {Sta : Nat → Shared → Prop}
theorem set_loop (W : WalksS P w A.in1 J fp wr Gs n It Sta) (D : Addr) (hD : D ∉ fp) (xs : List Str) (hx : xs.length = n) (hb : n + 1 < scanBound) (hv : ∀ i v, It i v → ∃ t, v = .str (xs.getD i Str.empty) t) :
    ∀ (m i : Nat) (s : Shared), n - i = m → i ≤ n → Sta i s → s.heap.SetOf (PySem.strKind P w) D (fun k' => (xs.take i).any (· == k')) (nubS (xs.take i)).length →
      (∀ s', Moved (D :: wr) Gs s s' → s'.heap.SetOf (PySem.strKind P w) D (fun k' => (xs.take n).any (· == k')) (nubS (xs.take n)).length → R (.ok (.ret .none)) s') →
      codeAny (model P w) A (.builtin "set.update.loop" ⟨[.ref D, .ref J], []⟩) R s := by
  have hDw : D ∉ wr := fun z => hD (W.sub _ z)
  have up : ∀ b ∈ wr, b ∈ D :: wr := fun b z => List.mem_cons_of_mem _ z
  have stay : ∀ {s s' : Shared} {S : Str → Bool} {c : Nat}, Moved wr Gs s s' → s.heap.SetOf (PySem.strKind P w) D S c → s'.heap.SetOf (PySem.strKind P w) D S c := fun mv ⟨ob, es, ep, tb, ho, more⟩ => ⟨ob, es, ep, tb, mv.heap D _ hDw ho, more⟩
  intro m
  induction m with
  | zero =>
    intro i s hm hle st hS fin
    have e : i = n := by omega
    subst e
    refine codeAny_builtin F.entry_set_update_loop ?_
    rw [Around.under_plainId F.plain_set_update_loop _]
    exact wpAny_bind (W.done s _ _ st fun s' mv => wpAny_pure (fin s' (mv.mono up) (stay mv hS)))
  | succ m ih =>
    intro i s hm hle st hS fin
    have hlt : i < n := by omega
    have hl : i < xs.length := by omega
    refine codeAny_builtin F.entry_set_update_loop ?_
    rw [Around.under_plainId F.plain_set_update_loop _]
    refine wpAny_bind (W.item i s _ _ hlt st fun v s' hit st' mv => ?_)
    obtain ⟨t, rfl⟩ := hv i v hit
    have eg : xs.getD i Str.empty = xs[i] := by
      rw [List.getD_eq_getElem?_getD, List.getElem?_eq_getElem hl]
      rfl
    have hn : (nubS (xs.take i)).length ≤ i := Nat.le_trans (nub_len _) (by rw [List.length_take]; omega)
    have hS1 := stay mv hS
    refine wpAny_bind (wpAny_holding ?_)
    unfold setAdd
    refine wpAny_holding ?_
    refine wpAny_bind ((PySem.strKind P w).pyHash (k := xs.getD i Str.empty) (strKind_is _ _ _ _) ?_)
    refine wpAny_setAddHashed_of (knd := PySem.strKind P w) (s := { s' with toks := s'.toks + 1 }) (strKind_is _ _ _ _) rfl hS1 (by omega) fun h' sb hS2 => ?_
    rw [eg] at hS2
    have hS3 := set_step hl hS2
    refine wpAny_pure ⟨plainId_quiet F.plain_set_update_loop _, ih (i + 1) _ (by omega) hlt (W.frame _ s' _ _ st' (Nat.le_succ _) fun b z o q => ?_) hS3 fun s2 mv2 hS4 => ?_⟩
    · exact (sb.2 b (fun y => hD (y ▸ z))).trans q
    · refine fin s2 (Moved.trans W.gtrans ((mv.mono up).then_heap (Nat.le_succ _) fun b o z q => ?_) mv2) hS4
      exact (sb.2 b (fun y => z (y ▸ List.mem_cons_self))).trans q
end
section
variable {P : Program} {w : World} {A : Around} {E : Value → Shared → Prop} {s : Shared}
abbrev newSet (led : Bool) : Obj := { cls := .type "set", dict := none, data := .set #[] 0 (.fresh 0 0 led) }
theorem call_setS {l : Addr} {items : Array Value} {xs : List Str} {Q : Value → Shared → Prop} (hh : A.handled = none) (hl : s.heap.IsList l items) (hi : StrsAre items.toList xs) (hb : xs.length + 1 < scanBound)
    (h : ∀ (h' : Heap) (tk : Nat), h'.SetOf (PySem.strKind P w) s.heap.objs.size (fun k' => xs.any (· == k')) (nubS xs).length → (∀ b o, b < s.heap.objs.size → s.heap.get? b = some o → h'.get? b = some o) → Q (.ref s.heap.objs.size) { s with heap := h', toks := tk }) :
    wpAny (model P w) A (call (.type "set") [.ref l]) Q E s := by
  obtain ⟨c, tl, g1⟩ := PySem.F.called_set.mro
  have g2 := PySem.F.called_set.made
  have g3 := PySem.F.called_set.sub
  have g4 := PySem.F.called_set.notType
  have g5 := PySem.F.called_set.canCreate
  have g6 := PySem.F.typeCall_set_1 (.ref l)
  refine wpAny_call (codeAny_of_tree (wpAny_pure ⟨Code.quiet_builtin _ (by decide +kernel), codeAny_builtin PySem.F.entry_type_call ?_⟩))
  rw [Around.under_plain (weight_type_call_type "set" [.ref l] []) rfl]
  repeat (any_goals (first | assumption | wp_step))
  refine codeAny_mono (code_set_new_1 (.ref l) (E := E) (Q₁ := fun ob s₁ => ∃ led, ob = .ref s.heap.objs.size ∧ s₁ = { s with heap := s.heap.push (newSet led) }) fun led => ⟨led, rfl, rfl⟩) fun r s₁ hr => ?_
  cases r with
  | error e => exact hr
  | ok fl =>
    cases fl with
    | ret ob =>
      obtain ⟨led, rfl, rfl⟩ := hr
      have a1 : (s.heap.push (newSet led)).get? s.heap.objs.size = some (newSet led) := Heap.get?_push_size _ rfl
      have a2 : Shared.TypeIs { s with heap := s.heap.push (newSet led) } (.ref s.heap.objs.size) "set" := ⟨_, a1, rfl⟩
      have a3 := PySem.F.called_set.init.lookup
      have a4 := PySem.F.called_set.init.bind (.ref s.heap.objs.size)
      repeat (any_goals (first | assumption | wp_step))
      refine codeAny_mono (codeAny_call_builtin (R := wants (fun r s₂ => r = .none ∧ ∃ h' tk, s₂ = { s with heap := h', toks := tk } ∧ h'.SetOf (PySem.strKind P w) s.heap.objs.size (fun k' => xs.any (· == k')) (nubS xs).length ∧ ∀ b o, b < s.heap.objs.size → s.heap.get? b = some o → h'.get? b = some o) E)
        PySem.F.called_set.init.plain PySem.F.entry_set_init (check_set_init_1 a2 ?_)) fun r₂ s₂ hr₂ => ?_
      · have hlS : l < s.heap.objs.size := by
          obtain ⟨ol, hol, _⟩ := id hl
          exact Heap.lt_size hol
        have hl1 : (s.heap.push (newSet led)).IsList l items := hl.push _
        obtain ⟨ol, hol, hcl, nl, hdl⟩ := id hl1
        obtain ⟨ocls, odict, odata, oslots⟩ := ol
        simp only at hcl hdl
        subst hcl hdl
        have f1 := PySem.F.sub_list_set
        have f2 := PySem.F.sub_list_frozenset
        have f3 : (Value.type "list" == Value.type "dict") = false := by decide
        unfold Builtin.«set.__init__» noKeywords Builtin.Frozenset.updateFrom
        generalize hp : pyIter = it
        wp_walk
        subst hp
        refine wpAny_pyIter_list hl1 (wpAny_bind (wpAny_runValue ?_))
        have hlen : xs.length = items.size := by rw [← StrsAre.len_eq hi, Array.length_toList]
        have nI : l ≠ (s.heap.push (newSet led)).objs.size := by
          rw [Heap.size_push]
          exact Nat.ne_of_lt (Nat.lt_succ_of_lt hlS)
        have nD : s.heap.objs.size ∉ [(s.heap.push (newSet led)).objs.size, l] := by
          rw [Heap.size_push]
          simp only [List.mem_cons, List.not_mem_nil, or_false, not_or]
          exact ⟨Nat.ne_of_lt (Nat.lt_succ_self _), Nat.ne_of_gt hlS⟩
        refine set_loop ((Walks.list (show A.in1.in1.in1.handled = none by simp [hh]) _ l nI items).toS) s.heap.objs.size nD xs hlen (by omega) (fun i v q => SS.strs_at hi i v (by rw [Array.getElem?_toList]; exact q)) (items.size - 0) 0 _ (by omega) (Nat.zero_le _) ⟨⟨_, Heap.get?_push_size _ rfl, rfl, rfl⟩, hl1.push _⟩ ?_ ?_
        · refine SetOf_congr ((setObjOf_fresh (knd := PySem.strKind P w) led).setOf (Heap.get?_push_of_some _ a1) (by unfold scanBound; omega)) (fun _ => rfl) rfl
        · intro s' mv hS'
          obtain ⟨h', g', d', tk', os'⟩ := s'
          obtain rfl : g' = s.gens := mv.gens
          obtain rfl : d' = s.drawn := mv.drawn
          obtain rfl : os' = s.os := mv.os
          rw [← hlen, List.take_length] at hS'
          refine wpAny_pure (wpAny_pure ⟨rfl, h', tk', rfl, hS', fun b o q e => ?_⟩)
          refine mv.heap b o ?_ (Heap.get?_push_of_some _ (Heap.get?_push_of_some _ e))
          rw [Heap.size_push]
          simp only [List.mem_cons, List.not_mem_nil, or_false, not_or]
          exact ⟨Nat.ne_of_lt q, Nat.ne_of_lt (Nat.lt_succ_of_lt q)⟩
      · cases r₂ with
        | error e => exact hr₂
        | ok fl₂ =>
          cases fl₂ with
          | ret r =>
            obtain ⟨rfl, h', tk, rfl, hS', hk'⟩ := hr₂
            repeat (any_goals (first | assumption | wp_step))
            exact h _ _ hS' hk'
          | _ => exact hr₂.elim
    | _ => exact hr.elim
end
section
variable {G : Cfg} {C : Sc} {Γ : Fr} {O : Own} {a : Expr} {p1 p2 p3 pos : Pos}
theorem e_lenSet [Calm C] {xs : List Str} (g1 : Glo C "len") (m1 : G.mg "len" = none) (g2 : Glo C "set") (m2 : G.mg "set" = none) (ha : E G C a Γ O (dLst G.K (xs.map dS))) (hn : xs.length < 4000) (hs : ∀ env, starEach [a] env = (false, eval a env) :: starEach [] env) : E G C (.Call (.Name "len" p1) [.Call (.Name "set" p2) [a] [] p3] [] pos) Γ O (dI (nubS xs).length) := .mk fun X c F σ H hh Q q => by
  intro pins s I
  refine Call_ (ld_blt I (c.gl g1) (by rw [c.mg]; exact m1) boot_len ?_)
  refine callWith_builtin1 (args_cons ?_ rfl) rfl rfl
  refine Call_ (ld_blt I (c.gl g2) (by rw [c.mg]; exact m2) boot_set ?_)
  refine callWith_type1 (args_cons (thn (ha.run X c F σ H hh (fun v H1 => ∃ F1, Gw F F1 ∧ Hold F1 Γ O σ H1 ∧ (dLst G.K (xs.map dS)).ok F1 v) (fun F1 H1 v e1 h1 d1 => ⟨F1, e1, h1, d1⟩) pins s I) fun v s1 ⟨u, H1, I1, r1, F1, e1, h1, d1⟩ => args_nil ?_) (hs X.env)) (hs X.env) rfl
  obtain ⟨l, vs, rfl, hl, hal⟩ := d1
  obtain ⟨hv, _⟩ := AllD.dS hal
  subst hv
  cases r1
  have hsq : SqL X.K H1 l (xs.map V.str) := by rw [c.K]; exact gw_l h1.ho.ex hl.sq
  obtain ⟨its, r, pl, _⟩ := I1.list hsq
  have hb : (xs.length) + 1 < scanBound := by unfold scanBound; omega
  refine call_setS (xs := xs) (I1.ok.hd c.cm) pl.isList (by simpa using strsAre_of r) hb fun h' tk hS hk => args_nil ?_
  obtain ⟨o, es, ep, t, ho, hex, hd, _, _, _, hf, hc⟩ := hS
  have I2 : Inv X pins σ H1 { s1 with heap := h', toks := tk } := I1.kept fun b o e => hk b o (Heap.lt_size e) e
  have hn2 := nub_len xs
  refine call_len_set ho hex hd hf (by rw [hc]; omega) ⟨.int (nubS xs).length, H1, I2.tok _, ⟨_, by rw [hc]⟩, q F1 H1 _ e1 h1 rfl⟩
end
end Kn
namespace Kn
open PySem PySem.Spec L2
abbrev Sight := Str × Int × List Str
abbrev Talk := Int × Str × Str × Str
inductive Sy where
  | knew (p : Str) (h : Int)
  | unheard (p : Str) (h : Option Int)
  | silent (p : Str) (a b : Int)
  | barred (p q : Str)
deriving DecidableEq
instance : Inhabited Sy := ⟨.knew "" 0⟩
def Sy.kd : Sy → Str
  | .knew .. => "knew"
  | .unheard .. => "unheard"
  | .silent .. => "silent"
  | .barred .. => "barred"
def Sy.who : Sy → Str
  | .knew p _ => p
  | .unheard p _ => p
  | .silent p _ _ => p
  | .barred p _ => p
def Sy.len : Sy → Int
  | .silent .. => 4
  | _ => 3
def Sy.h1 : Sy → Int
  | .knew _ h => h
  | .silent _ a _ => a
  | _ => 0
def Sy.h2 : Sy → Int
  | .silent _ _ b => b
  | _ => 0
def Sy.ho : Sy → Option Int
  | .unheard _ h => h
  | _ => none
def Sy.other : Sy → Str
  | .barred _ q => q
  | _ => ""
def Sy.ds : Sy → List D
  | .knew p h => [dS "knew", dS p, dI h]
  | .unheard p h => [dS "unheard", dS p, dO dI h]
  | .silent p a b => [dS "silent", dS p, dI a, dI b]
  | .barred p q => [dS "barred", dS p, dS q]
def dSy (K : PySem.W.Frag) (s : Sy) : D := dTup K s.ds
theorem kd_knew {s : Sy} (h : decide (s.kd = ("knew" : Str)) = true) : s = .knew s.who s.h1 := by
  cases s with
  | knew p z => rfl
  | unheard p z => exact absurd (show decide (("unheard" : Str) = ("knew" : Str)) = true from h) (by decide +kernel)
  | silent p a b => exact absurd (show decide (("silent" : Str) = ("knew" : Str)) = true from h) (by decide +kernel)
  | barred p q => exact absurd (show decide (("barred" : Str) = ("knew" : Str)) = true from h) (by decide +kernel)
theorem kd_unheard {s : Sy} (h : decide (s.kd = ("unheard" : Str)) = true) : s = .unheard s.who s.ho := by
  cases s with
  | knew p z => exact absurd (show decide (("knew" : Str) = ("unheard" : Str)) = true from h) (by decide +kernel)
  | unheard p z => rfl
  | silent p a b => exact absurd (show decide (("silent" : Str) = ("unheard" : Str)) = true from h) (by decide +kernel)
  | barred p q => exact absurd (show decide (("barred" : Str) = ("unheard" : Str)) = true from h) (by decide +kernel)
theorem kd_silent {s : Sy} (h : decide (s.kd = ("silent" : Str)) = true) : s = .silent s.who s.h1 s.h2 := by
  cases s with
  | knew p z => exact absurd (show decide (("knew" : Str) = ("silent" : Str)) = true from h) (by decide +kernel)
  | unheard p z => exact absurd (show decide (("unheard" : Str) = ("silent" : Str)) = true from h) (by decide +kernel)
  | silent p a b => rfl
  | barred p q => exact absurd (show decide (("barred" : Str) = ("silent" : Str)) = true from h) (by decide +kernel)
theorem kd_barred {s : Sy} (h : decide (s.kd = ("barred" : Str)) = true) : s = .barred s.who s.other := by
  cases s with
  | knew p z => exact absurd (show decide (("knew" : Str) = ("barred" : Str)) = true from h) (by decide +kernel)
  | unheard p z => exact absurd (show decide (("unheard" : Str) = ("barred" : Str)) = true from h) (by decide +kernel)
  | silent p a b => exact absurd (show decide (("silent" : Str) = ("barred" : Str)) = true from h) (by decide +kernel)
  | barred p q => rfl
section
variable {G : Cfg} {C : Sc} {Γ : Fr} {O : Own} {a : Expr} {pos p1 p2 : Pos} {j : Nat} {s : Sy}
theorem e_sy0 (ha : E G C a Γ O (dSy G.K s)) : E G C (.Subscript a (.Constant (.int 0) j p1) pos) Γ O (dS s.kd) := e_ixT (ds := s.ds) (i := 0) (by cases s <;> rfl) ha e_int (fun _ _ => rfl)
theorem e_sy1 (ha : E G C a Γ O (dSy G.K s)) : E G C (.Subscript a (.Constant (.int 1) j p1) pos) Γ O (dS s.who) := e_ixT (ds := s.ds) (i := 1) (by cases s <;> rfl) ha e_int (fun _ _ => rfl)
theorem e_sy2k (h : decide (s.kd = ("knew" : Str)) = true) (ha : E G C a Γ O (dSy G.K s)) : E G C (.Subscript a (.Constant (.int 2) j p1) pos) Γ O (dI s.h1) := e_ixT (ds := s.ds) (i := 2) (by rw [kd_knew h]; rfl) ha e_int (fun _ _ => rfl)
theorem e_sy2s (h : decide (s.kd = ("silent" : Str)) = true) (ha : E G C a Γ O (dSy G.K s)) : E G C (.Subscript a (.Constant (.int 2) j p1) pos) Γ O (dI s.h1) := e_ixT (ds := s.ds) (i := 2) (by rw [kd_silent h]; rfl) ha e_int (fun _ _ => rfl)
theorem e_sy3s (h : decide (s.kd = ("silent" : Str)) = true) (ha : E G C a Γ O (dSy G.K s)) : E G C (.Subscript a (.Constant (.int 3) j p1) pos) Γ O (dI s.h2) := e_ixT (ds := s.ds) (i := 3) (by rw [kd_silent h]; rfl) ha e_int (fun _ _ => rfl)
theorem e_sy2u (h : decide (s.kd = ("unheard" : Str)) = true) (ha : E G C a Γ O (dSy G.K s)) : E G C (.Subscript a (.Constant (.int 2) j p1) pos) Γ O (dO dI s.ho) := e_ixT (ds := s.ds) (i := 2) (by rw [kd_unheard h]; rfl) ha e_int (fun _ _ => rfl)
theorem e_sy2b (h : decide (s.kd = ("barred" : Str)) = true) (ha : E G C a Γ O (dSy G.K s)) : E G C (.Subscript a (.Constant (.int 2) j p1) pos) Γ O (dS s.other) := e_ixT (ds := s.ds) (i := 2) (by rw [kd_barred h]; rfl) ha e_int (fun _ _ => rfl)
theorem sy_len : (s.ds.length : Int) = s.len := by cases s <;> rfl
theorem k_lenSy : CalR G C (.builtin "len") O [dSy G.K s] (dI s.len) := by
  have h := k_lenT (G := G) (C := C) (O := O) (ds := s.ds)
  rw [sy_len] at h
  exact h
end
def syP : Sy → PyData
  | .knew p h => .tuple [.str "knew", .str p, .int h]
  | .unheard p (some h) => .tuple [.str "unheard", .str p, .int h]
  | .unheard p none => .tuple [.str "unheard", .str p, .none]
  | .silent p a b => .tuple [.str "silent", .str p, .int a, .int b]
  | .barred p q => .tuple [.str "barred", .str p, .str q]
theorem sy_eqv (a b : Sy) : PyData.eqv (syP a) (syP b) = decide (a = b) := by
  have n1 : (("knew" : Str) == "unheard") = false := by decide +kernel
  have n2 : (("knew" : Str) == "silent") = false := by decide +kernel
  have n3 : (("knew" : Str) == "barred") = false := by decide +kernel
  have n4 : (("unheard" : Str) == "knew") = false := by decide +kernel
  have n5 : (("unheard" : Str) == "silent") = false := by decide +kernel
  have n6 : (("unheard" : Str) == "barred") = false := by decide +kernel
  have n7 : (("silent" : Str) == "knew") = false := by decide +kernel
  have n8 : (("silent" : Str) == "unheard") = false := by decide +kernel
  have n9 : (("silent" : Str) == "barred") = false := by decide +kernel
  have n10 : (("barred" : Str) == "knew") = false := by decide +kernel
  have n11 : (("barred" : Str) == "unheard") = false := by decide +kernel
  have n12 : (("barred" : Str) == "silent") = false := by decide +kernel
  cases a with
  | knew p h =>
    cases b with
    | knew p2 h2 => simp only [syP, PyData.eqv, PyData.eqvAll, beq_self_eq_true, Bool.true_and, Bool.and_true, beq_dec, Sy.knew.injEq, Bool.decide_and]
    | unheard p2 h2 => cases h2 <;> simp [syP, PyData.eqv, PyData.eqvAll, n1]
    | silent p2 a2 b2 => simp [syP, PyData.eqv, PyData.eqvAll, n2]
    | barred p2 q2 => simp [syP, PyData.eqv, PyData.eqvAll, n3]
  | unheard p h =>
    cases b with
    | knew p2 h2 => cases h <;> simp [syP, PyData.eqv, PyData.eqvAll, n4]
    | unheard p2 h2 =>
      cases h <;> cases h2 <;> simp only [syP, PyData.eqv, PyData.eqvAll, beq_self_eq_true, Bool.true_and, Bool.and_true, Bool.and_false, beq_dec, Sy.unheard.injEq, Bool.decide_and, Option.some.injEq, reduceCtorEq, decide_false, decide_true]
    | silent p2 a2 b2 => cases h <;> simp [syP, PyData.eqv, PyData.eqvAll, n5]
    | barred p2 q2 => cases h <;> simp [syP, PyData.eqv, PyData.eqvAll, n6]
  | silent p a b' =>
    cases b with
    | knew p2 h2 => simp [syP, PyData.eqv, PyData.eqvAll, n7]
    | unheard p2 h2 => cases h2 <;> simp [syP, PyData.eqv, PyData.eqvAll, n8]
    | silent p2 a2 b2 => simp only [syP, PyData.eqv, PyData.eqvAll, beq_self_eq_true, Bool.true_and, Bool.and_true, beq_dec, Sy.silent.injEq, Bool.decide_and]
    | barred p2 q2 => simp [syP, PyData.eqv, PyData.eqvAll, n9]
  | barred p q =>
    cases b with
    | knew p2 h2 => simp [syP, PyData.eqv, PyData.eqvAll, n10]
    | unheard p2 h2 => cases h2 <;> simp [syP, PyData.eqv, PyData.eqvAll, n11]
    | silent p2 a2 b2 => simp [syP, PyData.eqv, PyData.eqvAll, n12]
    | barred p2 q2 => simp only [syP, PyData.eqv, PyData.eqvAll, beq_self_eq_true, Bool.true_and, Bool.and_true, beq_dec, Sy.barred.injEq, Bool.decide_and]
theorem all3 {F : Hp} {d1 d2 d3 : D} {vs : List V} (h : AllD F [d1, d2, d3] vs) : ∃ v1 v2 v3, vs = [v1, v2, v3] ∧ d1.ok F v1 ∧ d2.ok F v2 ∧ d3.ok F v3 := by
  match vs, h with
  | [v1, v2, v3], h => exact ⟨v1, v2, v3, rfl, h.1, h.2.1, h.2.2.1⟩
  | [], h => exact h.elim
  | [_], h => exact h.2.elim
  | [_, _], h => exact h.2.2.elim
  | _ :: _ :: _ :: _ :: _, h => exact h.2.2.2.elim
theorem all4 {F : Hp} {d1 d2 d3 d4 : D} {vs : List V} (h : AllD F [d1, d2, d3, d4] vs) : ∃ v1 v2 v3 v4, vs = [v1, v2, v3, v4] ∧ d1.ok F v1 ∧ d2.ok F v2 ∧ d3.ok F v3 ∧ d4.ok F v4 := by
  match vs, h with
  | [v1, v2, v3, v4], h => exact ⟨v1, v2, v3, v4, rfl, h.1, h.2.1, h.2.2.1, h.2.2.2.1⟩
  | [], h => exact h.elim
  | [_], h => exact h.2.elim
  | [_, _], h => exact h.2.2.elim
  | [_, _, _], h => exact h.2.2.2.elim
  | _ :: _ :: _ :: _ :: _ :: _, h => exact h.2.2.2.2.elim
theorem dat_sy {K : PySem.W.Frag} : Dat K (dSy K) syP 1 := by
  have ls : ∀ (s : Str) (F : Hp) (v : V), (dS s).ok F v → PyData.strOk s = true := fun s F v h => h.2.1
  refine ⟨fun a F H v e h => ?_, fun a F v h => ?_, fun a => ?_, sy_eqv⟩
  · obtain ⟨x, vs, rfl, h2, h3⟩ := h
    have st : ∀ (s : Str) (v : V), (dS s).ok F v → Dp K H v (.str s) := fun s v h => dat_str.ok s F H v e h
    have it : ∀ (s : Int) (v : V), (dI s).ok F v → Dp K H v (.int s) := fun s v h => dat_int.ok s F H v e h
    cases a with
    | knew p h =>
      obtain ⟨v1, v2, v3, rfl, q1, q2, q3⟩ := all3 h3
      exact .tup (gw_t e h2) (.cons (st _ _ q1) (.cons (st _ _ q2) (.cons (it _ _ q3) .nil)))
    | unheard p h =>
      obtain ⟨v1, v2, v3, rfl, q1, q2, q3⟩ := all3 h3
      cases h with
      | none => exact .tup (gw_t e h2) (.cons (st _ _ q1) (.cons (st _ _ q2) (.cons ((show v3 = .non from q3) ▸ .non) .nil)))
      | some h => exact .tup (gw_t e h2) (.cons (st _ _ q1) (.cons (st _ _ q2) (.cons (it _ _ q3) .nil)))
    | silent p a b =>
      obtain ⟨v1, v2, v3, v4, rfl, q1, q2, q3, q4⟩ := all4 h3
      exact .tup (gw_t e h2) (.cons (st _ _ q1) (.cons (st _ _ q2) (.cons (it _ _ q3) (.cons (it _ _ q4) .nil))))
    | barred p q =>
      obtain ⟨v1, v2, v3, rfl, q1, q2, q3⟩ := all3 h3
      exact .tup (gw_t e h2) (.cons (st _ _ q1) (.cons (st _ _ q2) (.cons (st _ _ q3) .nil)))
  · obtain ⟨x, vs, rfl, h2, h3⟩ := h
    cases a with
    | knew p h =>
      obtain ⟨v1, v2, v3, rfl, q1, q2, q3⟩ := all3 h3
      simp only [syP, PyData.canLay0, PyData.canLayAll0, ls _ _ _ q1, ls _ _ _ q2, Bool.and_self]
    | unheard p h =>
      obtain ⟨v1, v2, v3, rfl, q1, q2, q3⟩ := all3 h3
      cases h <;> simp only [syP, PyData.canLay0, PyData.canLayAll0, ls _ _ _ q1, ls _ _ _ q2, Bool.and_self]
    | silent p a b =>
      obtain ⟨v1, v2, v3, v4, rfl, q1, q2, q3, q4⟩ := all4 h3
      simp only [syP, PyData.canLay0, PyData.canLayAll0, ls _ _ _ q1, ls _ _ _ q2, Bool.and_self]
    | barred p q =>
      obtain ⟨v1, v2, v3, rfl, q1, q2, q3⟩ := all3 h3
      simp only [syP, PyData.canLay0, PyData.canLayAll0, ls _ _ _ q1, ls _ _ _ q2, ls _ _ _ q3, Bool.and_self]
  · cases a with
    | unheard p h => cases h <;> simp [syP, PyData.depth, PyData.depthAll]
    | _ => simp [syP, PyData.depth, PyData.depthAll]
theorem t_eq {G : Cfg} {C : Sc} {Γ : Fr} {O : Own} {e : Expr} {b b' : Bool} (h : T G C e Γ O b) (q : b = b') : T G C e Γ O b' := q ▸ h
structure BookV where
  crew : List Str
  views : List Sight
  meetings : List Talk
  claims : List Sy
abbrev bookNs : List Str := ["crew", "views", "meetings", "claims"]
abbrev dSight (K : PySem.W.Frag) : Sight → D := dT3 K dS dI (dVt K dS)
abbrev dTalk (K : PySem.W.Frag) : Talk → D := dT4 K dI dS dS dS
abbrev bookDs (K : PySem.W.Frag) (b : BookV) : List D := [dLo K dS b.crew, dLo K (dSight K) b.views, dLo K (dTalk K) b.meetings, dLo K (dSy K) b.claims]
abbrev dBook (G : Cfg) (b : BookV) : D := dIns G "Book" bookNs (bookDs G.K b)
end Kn
namespace Kn
open PySem PySem.Spec L2
theorem loop_all {α : Type} (p : α → Bool) : ∀ xs : List α, loopL (R := Bool) (fun (_ : Unit) (x : α) => if (!p x) = true then Ret.rt false else Ret.nx ()) xs () = if xs.all p = true then Ret.nx () else Ret.rt false
  | [] => by simp only [loopL, List.all_nil, if_true]
  | x :: xs => by
    have ih := loop_all p xs
    rw [List.all_cons, loopL]
    cases h : p x with
    | true =>
      simp only [Bool.not_true, Bool.true_and]
      exact ih
    | false => simp only [Bool.not_false, Bool.false_and, if_true, Bool.false_eq_true, if_false]
theorem loop_nx {α R : Type} {f : Unit → α → Ret Unit R} : ∀ {xs : List α}, (∀ x ∈ xs, f () x = .nx ()) → loopL f xs () = .nx ()
  | [], _ => by rw [loopL]
  | x :: xs, h => by
    rw [loopL, h x List.mem_cons_self]
    exact loop_nx fun y hy => h y (List.mem_cons_of_mem _ hy)
theorem foldl_app {α β : Type} {f : α → List β} : ∀ {xs : List α} {s0 : List β}, xs.foldl (fun s x => s ++ f x) s0 = s0 ++ xs.flatMap f
  | [], s0 => by simp
  | x :: xs, s0 => by
    rw [List.foldl_cons, foldl_app, List.flatMap_cons, List.append_assoc]
theorem nub_nodup : ∀ {xs : List Str}, xs.Nodup → nubS xs = xs := by
  have go : ∀ (n : Nat) (ys : List Str), ys.length = n → ys.Nodup → nubS ys = ys := by
    intro n
    induction n with
    | zero =>
      intro ys h _
      rw [List.length_eq_zero_iff.mp h]
      rfl
    | succ n ih =>
      intro ys h nd
      have hne : ys ≠ [] := fun e => by rw [e] at h; cases h
      have e := List.dropLast_concat_getLast hne
      have hl : ys.dropLast.length = n := by rw [List.length_dropLast, h]; rfl
      rw [← e] at nd
      have nd2 := List.nodup_append.mp nd
      have ih' := ih _ hl nd2.1
      have hm : ys.getLast hne ∉ nubS ys.dropLast := by
        rw [ih']
        exact fun z => nd2.2.2 _ z _ List.mem_cons_self rfl
      rw [← e, nub_snoc, if_neg hm, ih']
  exact fun {xs} h => go _ xs rfl h
theorem cut_sub {α : Type} {xs : List α} {i j : Option Int} : (cut xs i j).Sublist xs := (List.take_sublist _ _).trans (List.drop_sublist _ _)
theorem mem_cut {α : Type} {xs : List α} {i j : Option Int} {x : α} (h : x ∈ cut xs i j) : x ∈ xs := cut_sub.subset h
theorem nth_inj {α : Type} [Inhabited α] {xs : List α} {i j : Int} (nd : xs.Nodup) (hi : 0 ≤ i ∧ i < xs.length) (hj : 0 ≤ j ∧ j < xs.length) (e : nth xs i = nth xs j) : i = j := by
  rw [nth_nat hi.1 hi.2, nth_nat hj.1 hj.2] at e
  have := (List.getElem_inj nd).mp e
  omega
theorem mod_step {n r L : Int} (h1 : 0 ≤ r ∧ r < L - 1) (hL : 1 < L) : (n % L + 1 + r) % L ≠ n % L := by
  have a := Int.emod_nonneg n (b := L) (by omega)
  have b := Int.emod_lt_of_pos n (b := L) (by omega)
  by_cases h : n % L + 1 + r < L
  · rw [Int.emod_eq_of_lt (by omega) h]
    omega
  · have e : n % L + 1 + r = (n % L + 1 + r - L) + L := by omega
    rw [e, Int.add_emod_right, Int.emod_eq_of_lt (by omega) (by omega)]
    omega
theorem tl_app (a b : Str) : (a ++ b).cps.toList = a.cps.toList ++ b.cps.toList := by
  show (a.cps ++ b.cps).toList = _
  exact Array.toList_append
theorem str_ext {a b : Str} (h : a.cps.toList = b.cps.toList) : a = b := by
  cases a with
  | mk x =>
    cases b with
    | mk y =>
      congr
      exact Array.toList_inj.mp h
theorem len_tl (a : Str) : a.length = a.cps.toList.length := by
  rw [Array.length_toList]
  rfl
theorem tl_cutTo {z : Str} {a : Int} (h : 0 ≤ a) : (cutS z none (some a)).cps.toList = z.cps.toList.take a.toNat := by
  unfold cutS
  show ((z.cps.toList.drop (HT.sIx z.length 0 none)).take (HT.sIx z.length z.length (some a) - HT.sIx z.length 0 none)) = _
  simp only [HT.sIx]
  rw [if_neg (by omega), List.drop_zero, Nat.sub_zero, len_tl]
  by_cases q : a.toNat ≤ z.cps.toList.length
  · rw [Nat.min_eq_left q]
  · rw [Nat.min_eq_right (by omega), List.take_length, List.take_of_length_le (by omega)]
theorem tl_cutFrom {z : Str} {a : Int} (h : 0 ≤ a) : (cutS z (some a) none).cps.toList = z.cps.toList.drop a.toNat := by
  unfold cutS
  show ((z.cps.toList.drop (HT.sIx z.length 0 (some a))).take (HT.sIx z.length z.length none - HT.sIx z.length 0 (some a))) = _
  simp only [HT.sIx]
  rw [if_neg (by omega), len_tl]
  by_cases q : a.toNat ≤ z.cps.toList.length
  · rw [Nat.min_eq_left q, List.take_of_length_le (by rw [List.length_drop]; exact Nat.le_refl _)]
  · rw [Nat.min_eq_right (by omega), Nat.sub_self, List.take_zero, List.drop_eq_nil_of_le (by omega)]
theorem tl_sign {z : Str} {i : Int} : (signAt z i).cps.toList = [nth z.cps.toList i] := rfl
theorem tl_join0 : ∀ {l : List Str}, (Str.join ("" : Str) l).cps.toList = l.flatMap fun s => s.cps.toList
  | [] => by decide +kernel
  | [x] => by rw [List.flatMap_cons, List.flatMap_nil, List.append_nil]; rfl
  | x :: y :: r => by
    have ih := tl_join0 (l := y :: r)
    have e : Str.join ("" : Str) (x :: y :: r) = x ++ ("" : Str) ++ Str.join ("" : Str) (y :: r) := rfl
    have e0 : ("" : Str).cps.toList = [] := by decide +kernel
    rw [e, tl_app, tl_app, ih, e0, List.append_nil]
    rfl
theorem nodup_flat {α β : Type} {f : α → List β} : ∀ {xs : List α}, (∀ x ∈ xs, (f x).Nodup) → xs.Pairwise (fun x y => ∀ a ∈ f x, ∀ b ∈ f y, a ≠ b) → (xs.flatMap f).Nodup
  | [], _, _ => by simp
  | x :: xs, h, p => by
    rw [List.flatMap_cons]
    obtain ⟨p1, p2⟩ := List.pairwise_cons.mp p
    refine List.nodup_append.mpr ⟨h x List.mem_cons_self, nodup_flat (fun y hy => h y (List.mem_cons_of_mem _ hy)) p2, fun a ha b hb => ?_⟩
    obtain ⟨y, hy, hb⟩ := List.mem_flatMap.mp hb
    exact p1 y hy a ha b hb
theorem upto_pair {n : Int} {R : Int → Int → Prop} (h : ∀ i j, 0 ≤ i → i < j → j < n → R i j) : (upto n).Pairwise R := by
  unfold upto
  rw [List.pairwise_map]
  refine List.Pairwise.imp_of_mem (R := fun a b => a < b) (fun ha hb hab => ?_) List.pairwise_lt_range
  have h1 := List.mem_range.mp ha
  have h2 := List.mem_range.mp hb
  exact h _ _ (by omega) (by omega) (by omega)
end Kn
namespace Kn
open PySem PySem.Spec L2
theorem Var.at {N : List Str} {sc : Scope} {top cl cl' : Bool} {k k' : Nat} {i : Nat} {x : Str} (v : Var ⟨k, N, sc, top, cl⟩ i x) : Var ⟨k', N, sc, top, cl'⟩ i x := ⟨v.n, v.v, v.d, v.c⟩
theorem Loca.at {N : List Str} {sc : Scope} {top cl cl' : Bool} {k k' : Nat} {i : Nat} {x : Str} (v : Loca ⟨k, N, sc, top, cl⟩ i x) : Loca ⟨k', N, sc, top, cl'⟩ i x := ⟨v.n, v.nd, v.l, v.f⟩
theorem Glo.at {N : List Str} {sc : Scope} {top cl cl' : Bool} {k k' : Nat} {x : Str} (v : Glo ⟨k, N, sc, top, cl⟩ x) : Glo ⟨k', N, sc, top, cl'⟩ x := v
def Fit : Nat → Va → Prop
  | _, .non => True
  | _, .int _ => True
  | _, .str _ => True
  | n + 1, .lst xs => ∀ x ∈ xs, Fit n x
  | n + 1, .tup xs => ∀ x ∈ xs, Fit n x
  | _, _ => False
mutual
def toP : Va → PyData
  | .non => .none
  | .bl b => .bool b
  | .int i => .int i
  | .str s => .str s
  | .lst xs => .list (toPs xs)
  | .tup xs => .tuple (toPs xs)
  | .dic => .none
def toPs : List Va → List PyData
  | [] => []
  | x :: xs => toP x :: toPs xs
end
theorem toPs_map : ∀ xs : List Va, toPs xs = xs.map toP
  | [] => by simp only [toPs, List.map_nil]
  | x :: xs => by simp only [toPs, List.map_cons, toPs_map xs]
def eqA (x y : Va) : Bool := PyData.eqv (toP x) (toP y)
def isN : Va → Bool
  | .non => true
  | _ => false
def Va.items : Va → List Va
  | .lst xs => xs
  | .tup xs => xs
  | _ => []
theorem fit_dp {K : PySem.W.Frag} : ∀ (n : Nat) (x : Va), Fit n x → ∀ (F H : Hp) (v : V), Gw F H → (dA K x).ok F v → Dp K H v (toP x) ∧ (toP x).canLay0 = true ∧ (toP x).depth ≤ n := by
  intro n
  induction n with
  | zero =>
    intro x hf F H v e h
    cases x with
    | non => rw [dA_non] at h; exact ⟨(show v = .non from h) ▸ by rw [toP]; exact .non, by simp only [toP, PyData.canLay0], by simp only [toP, PyData.depth]; omega⟩
    | int i => rw [dA_int] at h; exact ⟨(show v = .int i from h) ▸ by rw [toP]; exact .int i, by simp only [toP, PyData.canLay0], by simp only [toP, PyData.depth]; omega⟩
    | str s => rw [dA_str] at h; exact ⟨h.1 ▸ by rw [toP]; exact .str s, by simp only [toP, PyData.canLay0]; exact h.2.1, by simp only [toP, PyData.depth]; omega⟩
    | _ => exact (show False from hf).elim
  | succ n ih =>
    have all : ∀ (xs : List Va), (∀ x ∈ xs, Fit n x) → ∀ (F H : Hp) (vs : List V), Gw F H → AllD F (xs.map (dA K)) vs → DpAll K H vs (xs.map toP) ∧ PyData.canLayAll0 (xs.map toP) = true ∧ PyData.depthAll (xs.map toP) ≤ n := by
      intro xs
      induction xs with
      | nil =>
        intro _ F H vs e h
        cases vs with
        | nil => exact ⟨.nil, by simp only [List.map_nil, PyData.canLayAll0], by simp only [List.map_nil, PyData.depthAll]; omega⟩
        | cons => exact h.elim
      | cons x xs ihx =>
        intro hf F H vs e h
        cases vs with
        | nil => exact h.elim
        | cons v vs =>
          obtain ⟨a1, a2, a3⟩ := ih x (hf x List.mem_cons_self) F H v e h.1
          obtain ⟨b1, b2, b3⟩ := ihx (fun y hy => hf y (List.mem_cons_of_mem _ hy)) F H vs e h.2
          exact ⟨.cons a1 b1, by simp only [List.map_cons, PyData.canLayAll0, a2, b2, Bool.and_self], by simp only [List.map_cons, PyData.depthAll]; omega⟩
    intro x hf F H v e h
    cases x with
    | non => rw [dA_non] at h; exact ⟨(show v = .non from h) ▸ by rw [toP]; exact .non, by simp only [toP, PyData.canLay0], by simp only [toP, PyData.depth]; omega⟩
    | int i => rw [dA_int] at h; exact ⟨(show v = .int i from h) ▸ by rw [toP]; exact .int i, by simp only [toP, PyData.canLay0], by simp only [toP, PyData.depth]; omega⟩
    | str s => rw [dA_str] at h; exact ⟨h.1 ▸ by rw [toP]; exact .str s, by simp only [toP, PyData.canLay0]; exact h.2.1, by simp only [toP, PyData.depth]; omega⟩
    | lst xs =>
      rw [dA_lst] at h
      obtain ⟨a, vs, rfl, h2, h3⟩ := h
      obtain ⟨b1, b2, b3⟩ := all xs hf F H vs e h3
      rw [toP, toPs_map]
      exact ⟨.lst (gw_l e h2.sq) b1, by simp only [PyData.canLay0]; exact b2, by simp only [PyData.depth]; omega⟩
    | tup xs =>
      rw [dA_tup] at h
      obtain ⟨a, vs, rfl, h2, h3⟩ := h
      obtain ⟨b1, b2, b3⟩ := all xs hf F H vs e h3
      rw [toP, toPs_map]
      exact ⟨.tup (gw_t e h2) b1, by simp only [PyData.canLay0]; exact b2, by simp only [PyData.depth]; omega⟩
    | _ => exact (show False from hf).elim
theorem fit_lst {α : Type} {n : Nat} {p : α → Va} (h : ∀ x, Fit n (p x)) (xs : List α) : Fit (n + 1) (.lst (xs.map p)) := fun y hy => by
  obtain ⟨x, _, rfl⟩ := List.mem_map.mp hy
  exact h x
theorem fit_tup {α : Type} {n : Nat} {p : α → Va} (h : ∀ x, Fit n (p x)) (xs : List α) : Fit (n + 1) (.tup (xs.map p)) := fun y hy => by
  obtain ⟨x, _, rfl⟩ := List.mem_map.mp hy
  exact h x
theorem fit_int {n : Nat} {i : Int} : Fit n (.int i) := by cases n <;> trivial
theorem fit_str {n : Nat} {i : Str} : Fit n (.str i) := by cases n <;> trivial
theorem fit_non {n : Nat} : Fit n .non := by cases n <;> trivial
theorem zip_at {α β : Type} : ∀ {xs : List α} {ys : List β} {i : Nat} {p : α × β}, (xs.zip ys)[i]? = some p → xs[i]? = some p.1 ∧ ys[i]? = some p.2
  | [], _, _, _, h => by simp at h
  | _ :: _, [], _, _, h => by simp at h
  | x :: xs, y :: ys, 0, p, h => by simp at h; subst h; exact ⟨rfl, rfl⟩
  | x :: xs, y :: ys, i + 1, p, h => by
    have := zip_at (xs := xs) (ys := ys) (i := i) (p := p) (by simpa using h)
    exact ⟨by simpa using this.1, by simpa using this.2⟩
section
variable {G : Cfg} {C : Sc} {Γ : Fr} {O : Own} {S1 R B : Type} {kk : Ek S1 R} {oo : Out S1 R} {e a b c : Expr} {es : List Expr} {d da db : D} {ds es' : List D} {ss : List Stmt} {pos p1 p2 p3 : Pos} {x : Str} {α β : Type} {f : α → D} {g : β → D} {n : Nat} {p : Addr}
theorem c_isAny {x : Va} : CmpR G C .Is O (dA G.K x) dN (isN x) := cmp_of (fun _ _ => op_isN) fun F H u v hh e1 e2 Q q => by
  refine ⟨e2, q F H _ (Gw.refl F) hh ?_⟩
  cases x with
  | non => rw [dA_non] at e1; rw [show u = .non from e1]; rfl
  | bl b => rw [dA_bl] at e1; rw [show u = .bl b from e1]; rfl
  | int i => rw [dA_int] at e1; rw [show u = .int i from e1]; rfl
  | str s => rw [dA_str] at e1; rw [e1.1]; rfl
  | lst xs => rw [dA_lst] at e1; obtain ⟨_, _, rfl, _⟩ := e1; rfl
  | tup xs => rw [dA_tup] at e1; obtain ⟨_, _, rfl, _⟩ := e1; rfl
  | dic => rw [dA_dic] at e1; obtain ⟨_, rfl, _⟩ := e1; rfl
theorem c_eqA {x y : Va} {n : Nat} (hx : Fit n x) (hy : Fit n y) (hn : n ≤ 64) : CmpR G C .Eq O (dA G.K x) (dA G.K y) (eqA x y) := ⟨fun X c => ⟨_, op_eqD c.units, fun F H v u hh h1 h2 Q q => by
  obtain ⟨a1, a2, a3⟩ := fit_dp n x hx F H v hh.ex h1
  obtain ⟨b1, b2, b3⟩ := fit_dp n y hy F H u hh.ex h2
  have sh : ∀ {z : PyData}, z.canLay0 = true → z.depth ≤ n → SeqAt.shaped z = true := fun {z} h1 h2 => by
    show (PyData.canLay0 z && decide (PyData.depth z ≤ 64)) = true
    rw [h1, decide_eq_true (by omega)]
    rfl
  exact ⟨toP x, toP y, by rw [c.K]; exact a1, by rw [c.K]; exact b1, sh a2 a3, sh b2 b3, q F H _ (Gw.refl F) hh rfl⟩⟩⟩
theorem k_lenA {x : Va} (h : isA "list" x = true ∨ isA "tuple" x = true) : CalR G C (.builtin "len") O [dA G.K x] (dI x.items.length) := by
  cases x with
  | lst xs => rw [dA_lst]; exact k_lenLo
  | tup xs => rw [dA_tup]; exact k_lenVt
  | _ => exfalso; rcases h with h | h <;> simp [isA, Va.kind] at h
theorem ei_zipL {elts : List Expr} {kz : Nat} (gz : Glo C "zip") (hm : G.mg "zip" = none) (ha : E G C a Γ O (dLst G.K ds)) (hb : E G C b Γ O (dLst G.K es')) (hs : ∀ env, starEach [a, b] env = (false, eval a env) :: starEach [b] env) (hs2 : ∀ env, starEach [b] env = [(false, eval b env)]) : EI G C (.Tuple elts kz p2) (.Call (.Name "zip" p1) [a, b] [] pos) Γ O anyO ((ds.zip es').map fun q => dTup G.K [q.1, q.2]) := .mk fun X c F σ H hh R q =>
  wi_of (pi_zip (c.gl gz) (by rw [c.mg]; exact hm) (pa_cons pe_can (pa_cons pe_can pa_nil (by rw [hs2]; rfl)) (by rw [hs])) (hs X.env) (by rw [hs2]; rfl)) (ha.run X c F σ H hh _ fun F1 H1 v e1 h1 d1 => hb.run X c F1 σ H1 h1 _ fun F2 H2 u e2 h2 d2 => by
    obtain ⟨l1, vs, rfl, s1, a1⟩ := (dLst G.K ds).mono e2 d1
    obtain ⟨l2, us, rfl, s2, a2⟩ := d2
    have q1 : ∀ {F' O' H'}, Gw F2 F' → HoldO F' O' H' → SqL X.K H' l1 vs := fun e h => by rw [c.K]; exact gw_l (e.trans h.ex) s1.sq
    have q2 : ∀ {F' O' H'}, Gw F2 F' → HoldO F' O' H' → SqL X.K H' l2 us := fun e h => by rw [c.K]; exact gw_l (e.trans h.ex) s2.sq
    refine ⟨l1, l2, vs, us, rfl, q1 (Gw.refl _) h2.ho, q2 (Gw.refl _) h2.ho, q _ F2 H2 (e1.trans e2) h2 ⟨fun i d hd F O H _ e h => ?_, fun F O H _ e h => ?_⟩⟩
    · rw [List.getElem?_map] at hd
      cases hz : (ds.zip es')[i]? with
      | none => rw [hz] at hd; cases hd
      | some w =>
        rw [hz] at hd
        cases hd
        obtain ⟨z1, z2⟩ := zip_at hz
        obtain ⟨v, hv, dv⟩ := AllD.get a1 z1
        obtain ⟨u, hu, du⟩ := AllD.get a2 z2
        refine ⟨⟨vs, us, v, u, q1 e h, q2 e h, hv, hu⟩, fun y H' hy => ?_⟩
        obtain ⟨T, x', y', rfl, hT, rfl, hx, hy⟩ := hy
        have hx' := hx vs (q1 e h)
        have hy' := hy us (q2 e h)
        rw [hv] at hx'
        rw [hu] at hy'
        cases hx'
        cases hy'
        obtain ⟨h3, e3⟩ := h.laid (o := .tup [v, u]) hT
        exact ⟨_, e3, h3, T, [v, u], rfl, .inl (.inl upd_same), D.mono _ (e.trans e3) dv, D.mono _ (e.trans e3) du, trivial⟩
    · refine ⟨vs, us, q1 e h, q2 e h, ?_⟩
      rw [List.length_map, List.length_zip, AllD.length a1, AllD.length a2]
      omega)
theorem ei_zipT {elts : List Expr} {kz : Nat} (gz : Glo C "zip") (hm : G.mg "zip" = none) (ha : E G C a Γ O (dTup G.K ds)) (hb : E G C b Γ O (dTup G.K es')) (hs : ∀ env, starEach [a, b] env = (false, eval a env) :: starEach [b] env) (hs2 : ∀ env, starEach [b] env = [(false, eval b env)]) : EI G C (.Tuple elts kz p2) (.Call (.Name "zip" p1) [a, b] [] pos) Γ O anyO ((ds.zip es').map fun q => dTup G.K [q.1, q.2]) := .mk fun X c F σ H hh R q =>
  wi_of (RZ.pi_zipA (c.gl gz) (by rw [c.mg]; exact hm) (pa_cons pe_can (pa_cons pe_can pa_nil (by rw [hs2]; rfl)) (by rw [hs])) (hs X.env) (by rw [hs2]; rfl)) (ha.run X c F σ H hh _ fun F1 H1 v e1 h1 d1 => hb.run X c F1 σ H1 h1 _ fun F2 H2 u e2 h2 d2 => by
    obtain ⟨l1, vs, rfl, s1, a1⟩ := (dTup G.K ds).mono e2 d1
    obtain ⟨l2, us, rfl, s2, a2⟩ := d2
    have q1 : ∀ {F' O' H'}, Gw F2 F' → HoldO F' O' H' → SqT X.K H' l1 vs := fun e h => by rw [c.K]; exact gw_t (e.trans h.ex) s1
    have q2 : ∀ {F' O' H'}, Gw F2 F' → HoldO F' O' H' → SqT X.K H' l2 us := fun e h => by rw [c.K]; exact gw_t (e.trans h.ex) s2
    refine ⟨l1, l2, vs, us, rfl, .inr ⟨q1 (Gw.refl _) h2.ho, q2 (Gw.refl _) h2.ho, q _ F2 H2 (e1.trans e2) h2 ⟨fun i d hd F O H _ e h => ?_, fun F O H _ e h => ?_⟩⟩⟩
    · rw [List.getElem?_map] at hd
      cases hz : (ds.zip es')[i]? with
      | none => rw [hz] at hd; cases hd
      | some w =>
        rw [hz] at hd
        cases hd
        obtain ⟨z1, z2⟩ := zip_at hz
        obtain ⟨v, hv, dv⟩ := AllD.get a1 z1
        obtain ⟨u, hu, du⟩ := AllD.get a2 z2
        refine ⟨⟨vs, us, v, u, q1 e h, q2 e h, hv, hu⟩, fun y H' hy => ?_⟩
        obtain ⟨T, x', y', rfl, hT, rfl, hx, hy⟩ := hy
        have hx' := hx vs (q1 e h)
        have hy' := hy us (q2 e h)
        rw [hv] at hx'
        rw [hu] at hy'
        cases hx'
        cases hy'
        obtain ⟨h3, e3⟩ := h.laid (o := .tup [v, u]) hT
        exact ⟨_, e3, h3, T, [v, u], rfl, .inl (.inl upd_same), D.mono _ (e.trans e3) dv, D.mono _ (e.trans e3) du, trivial⟩
    · refine ⟨vs, us, q1 e h, q2 e h, ?_⟩
      rw [List.length_map, List.length_zip, AllD.length a1, AllD.length a2]
      omega)
theorem zip_dA {xs ys : List Va} : ((xs.map (dA G.K)).zip (ys.map (dA G.K))).map (fun q => dTup G.K [q.1, q.2]) = (xs.zip ys).map (dT2 G.K (dA G.K) (dA G.K)) := by
  rw [List.zip_map, List.map_map]
  rfl
theorem ei_zipA {x y : Va} {elts : List Expr} {kz : Nat} (gz : Glo C "zip") (hm : G.mg "zip" = none) (ha : E G C a Γ O (dA G.K x)) (hb : E G C b Γ O (dA G.K y)) (hxy : (isA "list" x = true ∧ isA "list" y = true) ∨ (isA "tuple" x = true ∧ isA "tuple" y = true)) (hs : ∀ env, starEach [a, b] env = (false, eval a env) :: starEach [b] env) (hs2 : ∀ env, starEach [b] env = [(false, eval b env)]) : EI G C (.Tuple elts kz p2) (.Call (.Name "zip" p1) [a, b] [] pos) Γ O anyO ((x.items.zip y.items).map (dT2 G.K (dA G.K) (dA G.K))) := by
  rw [← zip_dA]
  rcases hxy with ⟨h1, h2⟩ | ⟨h1, h2⟩
  · have ex : x = .lst x.items := by cases x <;> first | rfl | (simp [isA, Va.kind] at h1)
    have ey : y = .lst y.items := by cases y <;> first | rfl | (simp [isA, Va.kind] at h2)
    rw [ex, dA_lst] at ha
    rw [ey, dA_lst] at hb
    exact ei_zipL gz hm ha hb hs hs2
  · have ex : x = .tup x.items := by cases x <;> first | rfl | (simp [isA, Va.kind] at h1)
    have ey : y = .tup y.items := by cases y <;> first | rfl | (simp [isA, Va.kind] at h2)
    rw [ex, dA_tup] at ha
    rw [ey, dA_tup] at hb
    exact ei_zipT gz hm ha hb hs hs2
end
end Kn
namespace Kn
theorem fit0_items {x : Va} (h : Fit 0 x) : x.items = [] := by
  cases x with
  | lst xs => exact (show False from h).elim
  | tup xs => exact (show False from h).elim
  | _ => rfl
theorem fit_items {n : Nat} {x y : Va} (h : Fit (n + 1) x) (hy : y ∈ x.items) : Fit n y := by
  cases x with
  | lst xs => exact (show ∀ z ∈ xs, Fit n z from h) y hy
  | tup xs => exact (show ∀ z ∈ xs, Fit n z from h) y hy
  | _ => exact absurd hy (by simp [Va.items])
theorem held {n : Nat} {d : Va} (hd : Fit n d) (h1 : (isA "str" d || isN d) = false) (h2 : isA "int" d = false) : isA "list" d = true ∨ isA "tuple" d = true := by
  cases d with
  | lst xs => exact .inl rfl
  | tup xs => exact .inr rfl
  | dic => cases n <;> exact (show False from hd).elim
  | _ => simp [isA, isN, Va.kind] at h1 h2
theorem held2 {d f : Va} (h3 : (!decide (isA "tuple" d = isA "tuple" f) || !decide (isA "list" d = isA "list" f)) = false) (h : isA "list" d = true ∨ isA "tuple" d = true) : (isA "list" f = true ∧ isA "list" d = true) ∨ (isA "tuple" f = true ∧ isA "tuple" d = true) := by
  simp only [Bool.or_eq_false_iff, Bool.not_eq_false', decide_eq_true_eq] at h3
  rcases h with h | h
  · exact .inl ⟨h3.2 ▸ h, h⟩
  · exact .inr ⟨h3.1 ▸ h, h⟩
theorem held1 {d f : Va} (h : (isA "list" f = true ∧ isA "list" d = true) ∨ (isA "tuple" f = true ∧ isA "tuple" d = true)) : isA "list" f = true ∨ isA "tuple" f = true := h.imp And.left And.left
end Kn
namespace Kn
open PySem PySem.Spec L2
theorem HoldO.all (H : Hp) : HoldO H [] H := ⟨Gw.refl H, List.nodup_nil, fun _ h => (nomatch h)⟩
theorem HoldO.back {F : Hp} {O : Own} {H H' : Hp} (h : HoldO F O H) (e : Gw H H') : HoldO F O H' := ⟨h.ex.trans e, h.nd, fun q hq => by
  obtain ⟨h1, o, h2, h3⟩ := h.ow q hq
  exact ⟨h1, o, e q.1 o h2, h3⟩⟩
structure Cv1 (O : Own) (d d' : D) : Prop where
  to : ∀ (F H : Hp) (v : V), HoldO F O H → d.ok F v → d'.ok H v
structure Cv (O : Own) (ds ds' : List D) : Prop where
  to : ∀ (F H : Hp) (vs : List V), HoldO F O H → AllD F ds vs → AllD H ds' vs
section
variable {G : Cfg} {C : Sc} {Γ : Fr} {O : Own} {e : Expr} {es : List Expr} {d d' d'' da db da' db' : D} {ds ds' : List D} {pos p1 : Pos} {x : Str} {S : SpecD} {k n : Nat} {p : Addr} {op : CmpOp} {b : Bool} {f : Value}
theorem cv1_own (hk : O[n]? = some (p, oLst ds)) : Cv1 O (dP p) (dLst G.K ds) := ⟨fun F H v h q => by
  obtain ⟨_, o, hp, vs, rfl, ha⟩ := h.at hk
  exact ⟨p, vs, q, .inl (Rd.of hp), ha.mono h.ex⟩⟩
theorem cv_nil : Cv O [] [] := ⟨fun F H vs h q => by
  cases vs with
  | nil => trivial
  | cons v vs => exact q.elim⟩
theorem cv_cons (h : Cv1 O d d') (hs : Cv O ds ds') : Cv O (d :: ds) (d' :: ds') := ⟨fun F H vs hh q => by
  cases vs with
  | nil => exact q.elim
  | cons v vs => exact ⟨h.to F H v hh q.1, hs.to F H vs hh q.2⟩⟩
end
end Kn
namespace Kn
open PySem PySem.Spec L2
section
variable {G : Cfg} {C : Sc} {Γ : Fr} {O : Own} {a : Expr} {d : D} {pos p1 p2 p3 : Pos} {p : Addr} {od : OD}
theorem rk_drop {F : Hp} {v : V} {H : Hp} (h : (RK.val d ((p, od) :: O)).ok F v H) : (RK.val d O).ok F v H := by
  obtain ⟨F', e, h2, d2⟩ := h
  exact ⟨F', e, h2.drop, d2⟩
end
end Kn
namespace Kn
theorem fit_t2 {n : Nat} {a b : Va} (ha : Fit n a) (hb : Fit n b) : Fit (n + 1) (.tup [a, b]) := fun x hx => by
  rcases List.mem_cons.mp hx with rfl | hx
  · exact ha
  · rw [List.mem_singleton] at hx; rw [hx]; exact hb
theorem fit_t3 {n : Nat} {a b c : Va} (ha : Fit n a) (hb : Fit n b) (hc : Fit n c) : Fit (n + 1) (.tup [a, b, c]) := fun x hx => by
  rcases List.mem_cons.mp hx with rfl | hx
  · exact ha
  · exact fit_t2 hb hc x hx
theorem fit_t4 {n : Nat} {a b c d : Va} (ha : Fit n a) (hb : Fit n b) (hc : Fit n c) (hd : Fit n d) : Fit (n + 1) (.tup [a, b, c, d]) := fun x hx => by
  rcases List.mem_cons.mp hx with rfl | hx
  · exact ha
  · exact fit_t3 hb hc hd x hx
theorem fit_h4 {n : Nat} {a b c d : Va} (ha : Fit n a) (hb : Fit n b) (hc : Fit n c) (hd : Fit n d) : Fit (n + 1) (.lst [a, b, c, d]) := fit_t4 ha hb hc hd
end Kn
namespace Kn
open PySem PySem.Spec L2
section
variable {G : Cfg} {C : Sc} {Γ : Fr} {O : Own} {S1 R B : Type} {kk : Ek S1 R} {oo : Out S1 R} {e a b c : Expr} {es : List Expr} {d da db : D} {ss : List Stmt} {pos p1 p2 p3 : Pos} {x : Str} {α : Type} {f : α → D} {kvs : List ((Str × Str) × α)} {key : Str × Str} {n : Nat} {p : Addr}
end
section
variable {G : Cfg} {C : Sc} {Γ : Fr} {O : Own} {P : Own → Prop} {S S1 R B A : Type} {k : Ek S R} {o : Out S R} {it tg : Expr} {ds : List D} {ss body : List Stmt} {pos : Pos} {α : Type} {is : List Nat}
end
section
variable {α : Type}
theorem dHas_iff {κ β : Type} [DecidableEq κ] {kvs : List (κ × β)} {k : κ} : dHas kvs k = true ↔ k ∈ kvs.map Prod.fst := by
  unfold dHas
  rw [List.any_eq_true, List.mem_map]
  constructor
  · rintro ⟨q, h1, h2⟩
    exact ⟨q, h1, of_decide_eq_true h2⟩
  · rintro ⟨q, h1, h2⟩
    exact ⟨q, h1, decide_eq_true h2⟩
end
theorem HoldO.perm {F : Hp} {O O' : Own} {H : Hp} (h : HoldO F O H) (p : O.Perm O') : HoldO F O' H := ⟨h.ex, (p.map _).nodup_iff.mp h.nd, fun q hq => h.ow q (p.mem_iff.mpr hq)⟩
theorem HoldO.imp {F : Hp} {O : Own} {H : Hp} {p : Addr} {od od' : OD} (h : HoldO F ((p, od) :: O) H) (k : ∀ F o, od.ok F o → od'.ok F o) : HoldO F ((p, od') :: O) H := ⟨h.ex, h.nd, fun q hq => by
  rcases List.mem_cons.mp hq with rfl | hq
  · obtain ⟨h1, o, h2, h3⟩ := h.ow (p, od) List.mem_cons_self
    exact ⟨h1, o, h2, k F o h3⟩
  · exact h.ow q (List.mem_cons_of_mem _ hq)⟩
section
variable {G : Cfg} {C : Sc} {Γ : Fr} {O : Own} {S1 R B : Type} {kk : Ek S1 R} {oo : Out S1 R} {e a b : Expr} {ss : List Stmt} {pos p1 p2 p3 p4 p5 : Pos} {α : Type} {f : α → D} {kvs : List (Str × List α)} {as : List Addr} {key : Str} {y : α} {p : Addr}
end
section
variable {α : Type}
end
section
variable {G : Cfg} {C : Sc} {Γ : Fr} {O : Own} {a b : Expr} {pos : Pos} {α : Type} {f : α → D} {kvs : List ((Str × Str) × α)} {key : Str × Str}
end
section
variable {κ : Type} [DecidableEq κ] {ke : κ → Key} {G : Cfg} {C : Sc} {Γ : Fr} {O : Own} {a b : Expr} {d : D} {pos : Pos} {α : Type} {f : α → D} {kvs : List (κ × α)} {key : κ} {n : Nat} {p : Addr}
end
end Kn
namespace Kn
open PySem PySem.Spec L2 PySem.W PyProof.Rows
def srtD {α : Type} (p : α → PyData) (xs : List α) : List α := xs.mergeSort (dataLe false p)
theorem srt_perm {α : Type} {p : α → PyData} {xs : List α} : (srtD p xs).Perm xs := List.mergeSort_perm _ _
theorem srt_len {α : Type} {p : α → PyData} {xs : List α} : (srtD p xs).length = xs.length := srt_perm.length_eq
theorem mem_srt {α : Type} {p : α → PyData} {xs : List α} {x : α} : x ∈ srtD p xs ↔ x ∈ xs := srt_perm.mem_iff
section
variable {G : Cfg} {C : Sc} {O : Own} {α : Type} [DecidableEq α] {f : α → D} {p : α → PyData} {n : Nat} {xs : List α}
end
def kys {κ α : Type} (kvs : List (κ × α)) : List κ := kvs.map fun q => q.1
section
variable {G : Cfg} {C : Sc} {Γ : Fr} {O : Own} {α : Type} {f : α → D} {kvs : List (Str × α)} {it tg : Expr}
end
section
variable {G : Cfg} {C : Sc} {O : Own} {i j : Str}
end
section
variable {G : Cfg} {C : Sc} {Γ : Fr} {O : Own} {S1 R B : Type} {k : Ek S1 R} {e a b : Expr} {ss : List Stmt} {pos p1 p2 : Pos} {α : Type} {f : α → D} {n : Nat} {p : Addr}
end
end Kn
namespace Kn
open PySem PySem.Spec L2 PySem.W PyProof.Rows
inductive Wy where
  | saw (n : Int)
  | heard (n : Int) (t : Str)
deriving DecidableEq
instance : Inhabited Wy := ⟨.saw 0⟩
def Wy.kd : Wy → Str
  | .saw .. => "saw"
  | .heard .. => "heard"
def Wy.no : Wy → Int
  | .saw n => n
  | .heard n _ => n
def Wy.tl : Wy → Str
  | .saw _ => ""
  | .heard _ t => t
def Wy.ds : Wy → List D
  | .saw n => [dS "saw", dI n]
  | .heard n t => [dS "heard", dI n, dS t]
def dWy (K : PySem.W.Frag) (w : Wy) : D := dTup K w.ds
theorem wy_kinds (w : Wy) : decide (w.kd = ("heard" : Str)) = !decide (w.kd = ("saw" : Str)) := by
  cases w with
  | saw n => show decide (("saw" : Str) = ("heard" : Str)) = !decide (("saw" : Str) = ("saw" : Str)); decide +kernel
  | heard n t => show decide (("heard" : Str) = ("heard" : Str)) = !decide (("heard" : Str) = ("saw" : Str)); decide +kernel
section
variable {G : Cfg} {C : Sc} {Γ : Fr} {O : Own} {a : Expr} {pos p1 p2 : Pos} {j : Nat} {w : Wy}
end
theorem wy_nsaw {w : Wy} (h : decide (w.kd = ("saw" : Str)) = false) : decide (w.kd = ("heard" : Str)) = true := by rw [wy_kinds, h]; rfl
section
variable {G : Cfg} {C : Sc} {Γ : Fr} {O : Own} {S1 R : Type} {kk : Ek S1 R} {oo : Out S1 R} {ss : List Stmt} {α : Type} {f : α → D} {kvs : List ((Str × Str) × α)} {p : Addr}
end
theorem mem_kys {κ α : Type} [DecidableEq κ] {kvs : List (κ × α)} {k : κ} : k ∈ kys kvs ↔ dHas kvs k = true := dHas_iff.symm
theorem has_srt {α : Type} {kvs : List (Str × α)} {k : Str} (h : k ∈ srtD PyData.str (kys kvs)) : dHas kvs k = true := mem_kys.mp (mem_srt.mp h)
end Kn
namespace Kn
open PySem PySem.Spec L2 PySem.W PyProof.Rows
section
variable {G : Cfg} {C : Sc} {Γ : Fr} {O : Own} {a b : Expr} {pos p1 p2 p3 : Pos} {ds es : List D} {j k : Nat}
end
end Kn
namespace Kn
open PySem PySem.Spec L2 PySem.W PyProof.Rows
section
variable {G : Cfg} {C : Sc} {Γ : Fr} {O : Own} {S1 R B : Type} {k : Ek S1 R} {e a b : Expr} {ss : List Stmt} {pos p1 p2 : Pos} {α : Type} {f : α → D} {n : Nat} {p : Addr}
end
theorem dat_h4 {α β γ δ : Type} [DecidableEq α] [DecidableEq β] [DecidableEq γ] [DecidableEq δ] {K : PySem.W.Frag} {f : α → D} {g : β → D} {h : γ → D} {i : δ → D} {p : α → PyData} {q : β → PyData} {r : γ → PyData} {s : δ → PyData} {n : Nat} (t : Dat K f p n) (u : Dat K g q n) (w : Dat K h r n) (z : Dat K i s n) : Dat K (fun x : α × β × γ × δ => dLst K [f x.1, g x.2.1, h x.2.2.1, i x.2.2.2]) (fun x => PyData.list [p x.1, q x.2.1, r x.2.2.1, s x.2.2.2]) (n + 1) := by
  refine ⟨fun a F H v e h => ?_, fun a F v h => ?_, fun a => by have h1 := t.dep a.1; have h2 := u.dep a.2.1; have h3 := w.dep a.2.2.1; have h4 := z.dep a.2.2.2; simp only [PyData.depth, PyData.depthAll]; omega, fun a b => ?_⟩
  · obtain ⟨x, vs, rfl, h2, h3⟩ := h
    obtain ⟨v1, v2, v3, v4, rfl, q1, q2, q3, q4⟩ := all4 h3
    exact .lst (gw_l e h2.sq) (.cons (t.ok _ F H _ e q1) (.cons (u.ok _ F H _ e q2) (.cons (w.ok _ F H _ e q3) (.cons (z.ok _ F H _ e q4) .nil))))
  · obtain ⟨x, vs, rfl, h2, h3⟩ := h
    obtain ⟨v1, v2, v3, v4, rfl, q1, q2, q3, q4⟩ := all4 h3
    simp only [PyData.canLay0, PyData.canLayAll0, t.lay _ F _ q1, u.lay _ F _ q2, w.lay _ F _ q3, z.lay _ F _ q4, Bool.and_self]
  · simp only [PyData.eqv, PyData.eqvAll, t.eq, u.eq, w.eq, z.eq, Bool.and_true]
    obtain ⟨a1, a2, a3, a4⟩ := a
    obtain ⟨b1, b2, b3, b4⟩ := b
    rw [← Bool.decide_and, ← Bool.decide_and, ← Bool.decide_and]
    exact decide_eq_decide.mpr (by simp)
section
variable {G : Cfg} {C : Sc} {Γ : Fr} {O : Own} {a b : Expr} {pos p1 : Pos}
end
end Kn
namespace Kn
open PySem PySem.Spec L2
theorem era_perm {α : Type} {c : α} : ∀ {l : List α} {n : Nat}, l[n]? = some c → l.Perm (c :: l.eraseIdx n)
  | [], n, h => by simp at h
  | x :: l, 0, h => by simp at h; subst h; exact List.Perm.refl _
  | x :: l, n + 1, h => by
    have ih := era_perm (l := l) (n := n) (by simpa using h)
    exact (ih.cons x).trans (List.Perm.swap c x _)
theorem HoldO.pull {F : Hp} {O : Own} {H : Hp} {n : Nat} {p : Addr} {od : OD} (h : HoldO F O H) (hk : O[n]? = some (p, od)) : HoldO F ((p, od) :: O.eraseIdx n) H := h.perm (era_perm hk)
theorem slot_same {σ : L2.St} {i : Nat} {v : V} (hv : σ[i]? = some (some v)) : σ.set i (some v) = σ := by
  refine List.ext_getElem? fun j => ?_
  by_cases hj : i = j
  · subst hj
    rw [List.getElem?_set_self (List.getElem?_eq_some_iff.mp hv).1, hv]
  · rw [List.getElem?_set_ne hj]
section
variable {G : Cfg} {C : Sc} {Γ Γ' : Fr} {O : Own} {S1 R B : Type} {kk : Ek S1 R} {oo : Out S1 R} {e a b c : Expr} {es : List Expr} {d d' : D} {ds : List D} {ss body : List Stmt} {pos p1 p2 p3 : Pos} {x : Str} {α : Type} {f : α → D} {n m i k : Nat} {p q : Addr} {od : OD} {ks : List Str} {key : Str}
theorem freeze_lstAt {F : Hp} {H : Hp} (h : HoldO F O H) (hk : O[n]? = some (p, oLst ds)) : ∃ F', Gw F F' ∧ HoldO F' (O.eraseIdx n) H ∧ (dLst G.K ds).ok F' (.ref p) := freeze_lst (h.pull hk)
structure AN (G : Cfg) (C : Sc) (es : List Expr) (Γ : Fr) (O : Own) (T : (Own → List D → Prop) → Prop) : Prop where
  st : ∀ env, (starEach es env).any (·.1) = false
  run : ∀ X, InC G C X → ∀ (F : Hp) (σ : L2.St) (H : Hp), Hold F Γ O σ H → ∀ R, T R → ∀ Q : List V → Hp → Prop, (∀ F' H' vs O' ds, R O' ds → Gw F F' → Hold F' Γ O' σ H' → AllD F' ds vs → Q vs H') → WA X es σ H Q
structure ET (G : Cfg) (C : Sc) (e : Expr) (Γ : Fr) (O : Own) (T : (Own → D → Prop) → Prop) : Prop where
  run : ∀ X, InC G C X → ∀ (F : Hp) (σ : L2.St) (H : Hp), Hold F Γ O σ H → ∀ R, T R → ∀ Q : VK, (∀ F' H' v O' d, R O' d → Gw F F' → Hold F' Γ O' σ H' → d.ok F' v → Q v H') → WE X e σ H Q
theorem an_nil : AN G C [] Γ O (fun R => R O []) := ⟨fun _ => rfl, fun X c F σ H hh R t Q q => wa_of pa_nil (q F H [] O [] t (Gw.refl F) hh trivial)⟩
theorem an_new {T : Addr → (Own → List D → Prop) → Prop} (h : EN G C e Γ O od) (hr : ∀ p, AN G C es Γ ((p, od) :: O) (T p)) (hs : ∀ env, starEach (e :: es) env = (false, eval e env) :: starEach es env) : AN G C (e :: es) Γ O (fun R => ∀ p, T p fun O' ds => R O' (dP p :: ds)) :=
  ⟨fun env => by rw [hs, List.any_cons, (hr 0).st]; rfl, fun X c F σ H hh R t Q q => by
    refine wa_of (pa_cons pe_can pa_can (hs X.env)) (h.run X c F σ H hh _ fun F1 H1 p e1 h1 => ?_)
    exact (hr p).run X c F1 σ H1 h1 _ (t p) _ fun F2 H2 vs O' ds r e2 h2 d2 => q F2 H2 _ O' _ r (e1.trans e2) h2 ⟨rfl, d2⟩⟩
def RK.set (S : Own → D → Prop) : RK := ⟨fun F v H => ∃ F' O' d, S O' d ∧ Gw F F' ∧ HoldO F' O' H ∧ d.ok F' v, fun e ⟨F', O', d, h1, e2, h2, h3⟩ => ⟨F', O', d, h1, e.trans e2, h2, h3⟩, noXo, fun _ z => z⟩
def fnS (S : R → Own → D → Prop) : Ek Empty R := ⟨fun e => e.elim, fun r => RK.set (S r), fun _ => XD.no⟩
theorem et_call [Calm C] {Sp : SpecD} {St : Own → D → Prop} (cal : Callee G k x Sp) (hk : k ≤ C.k) (g : Glo C x) (hS : Sp ds O (RK.set St)) (ha : A G C (e :: es) Γ O ds) (hs : ∀ env, starEach (e :: es) env = (false, eval e env) :: starEach es env) : ET G C (.Call (.Name x p1) (e :: es) [] pos) Γ O (fun R => ∀ O' d, St O' d → R O' d) := .mk fun X c F σ H hh R t Q q =>
  we_call cal hk g hS ha hs c hh fun F1 v H' e1 fr ⟨F2, O', d, h1, e2, h2, d2⟩ => q F2 H' v O' d (t O' d h1) (e1.trans e2) ⟨fr.mono e2, h2⟩ d2
theorem ss_asgT {T : (Own → D → Prop) → Prop} (l : Loca C i x) (hs : ∀ env, swapsWith e (some (.Name x p1)) pos.line env = pure false) (h : ET G C e Γ O T) (hr : T fun O' d => SS G C ss (Γ.set i (some d)) O' kk oo) : SS G C (.Assign [.Name x p1] e pos :: ss) Γ O kk oo :=
  ss_cons (t := fun X => tAsg (WE X e) (gName i)) (fun X c => ps_set (by rw [c.n]; exact l.nd) (by rw [c.n]; exact l.n) (by rw [c.sc]; exact l.l) pe_can (hs X.env) (by rcases l.f with h | h; exact .inl (c.fn h x); exact .inr (by rw [c.sc]; exact h)))
    fun X c W tk F σ H hh D m => h.run X c F σ H hh _ hr _ fun F1 H1 v O' d r e1 h1 d1 => r.run X c W tk F1 _ H1 (Hold.set i h1 d1) D (meet.mono e1 m)
theorem ss_let {A : Type} {a : A} {g : A → B} (ι : B → Out S1 R) (h : ∀ y, y = a → SS G C ss Γ O kk (ι (g y))) : SS G C ss Γ O kk (ι (lt a g)) := h a rfl
theorem ss_rev {xs : List α} {g : List α → B} (ι : B → Out S1 R) (hk : O[n]? = some (p, oLst (xs.map f))) (ha : E G C a Γ O (dP p)) (hb : ∀ env, attributeBase a "reverse" env (eval a env) = eval a env) (hl : (p1.endLine == p2.line) = true)
    (hr : ∀ ys, ys = xs.reverse → SS G C ss Γ (O.set n (p, oLst (ys.map f))) kk (ι (g ys))) : SS G C (.Expr (.Call (.Attribute a "reverse" p1) [] [] p2) pos :: ss) Γ O kk (ι (lt xs.reverse g)) :=
  ss_cons (t := fun X => tDrop (tBM0 X.K "list" rReverse (WE X a))) (fun X c => ps_expr (pe_bm0 PySem.F.plainAttrs_list PySem.F.slot_list_reverse PySem.F.type_list_reverse mt_reverse pe_can (hb X.env) hl))
    fun X c W tk F σ H hh D m => by
      refine ha.run X c F σ H hh _ fun F1 H1 v e1 h1 d1 => ?_
      have d1' : v = .ref p := d1
      subst d1'
      obtain ⟨_, o, hp, vs, rfl, hal⟩ := h1.ho.at hk
      refine ⟨.inl ⟨rfl, vs, SqL.of hp⟩, p, vs, rfl, rfl, hp, ?_⟩
      refine (hr _ rfl).run X c W tk F1 σ _ ⟨h1.fr, h1.ho.write hk ⟨_, rfl, ?_⟩⟩ D (meet.mono e1 m)
      rw [List.map_reverse]
      exact AllD.rev hal
end
section
variable {G : Cfg} {C : Sc} {Γ : Fr} {O : Own} {S1 S2 R B : Type} {kk : Ek S1 R} {c : Expr} {ss body : List Stmt} {pos : Pos}
end
end Kn
namespace Kn
open PySem PySem.Spec L2
section
variable {G : Cfg} {C : Sc} {Γ : Fr} {O : Own} {S1 R B : Type} {kk : Ek S1 R} {oo : Out S1 R} {e a b c : Expr} {d da db : D} {ss : List Stmt} {pos p1 p2 p3 : Pos} {κ α : Type} [DecidableEq κ] {ke : κ → Key} {f : α → D} {kvs : List (κ × α)} {key : κ} {n : Nat} {p : Addr}
end
def Sy.v2 : Sy → Va
  | .knew _ h => .int h
  | .unheard _ h => vaO Va.int h
  | .silent _ a _ => .int a
  | .barred _ q => .str q
section
variable {G : Cfg} {C : Sc} {Γ : Fr} {O : Own} {a : Expr} {pos p1 : Pos} {s : Sy} {j : Nat}
end
section
variable {G : Cfg} {C : Sc} {Γ : Fr} {O : Own} {tg it : Expr} {ds : List D} {n : Nat} {p : Addr}
end
end Kn
namespace Kn
open PySem PySem.Spec L2 PySem.W PyProof.Rows
end Kn
namespace Kn
open PySem PySem.Spec L2
def Wy.len : Wy → Int
  | .saw _ => 2
  | .heard _ _ => 3
section
variable {G : Cfg} {C : Sc} {O : Own} {ds : List D} {w : Wy}
end
end Kn
namespace Kn
open PySem PySem.Spec L2
inductive Stl where
  | story (r : List (Str × Int × Wy))
  | paper (r : List (Str × Option Int)) (n : Int)
def Stl.kd : Stl → Str
  | .story .. => "story"
  | .paper .. => "paper"
def Stl.no : Stl → Int
  | .story .. => 0
  | .paper _ n => n
def Stl.ds (K : PySem.W.Frag) : Stl → List D
  | .story r => [dS "story", dLo K (dT3 K dS dI (dWy K)) r]
  | .paper r n => [dS "paper", dLo K (dT2 K dS (dO dI)) r, dI n]
def dStl (K : PySem.W.Frag) (w : Stl) : D := dTup K (w.ds K)
section
variable {G : Cfg} {C : Sc} {Γ : Fr} {O : Own} {a : Expr} {pos p1 : Pos} {j : Nat} {w : Stl}
end
section
variable {G : Cfg} {C : Sc} {O : Own} {i j : Bool}
end
end Kn
namespace Kn
open PySem PySem.Spec L2
structure DefA (G : Cfg) (g x : Str) (st : Stmt) : Prop where
  ex : ∃ (f : Addr) (fd : FuncData), FunD G.K x x (defArgs st) (defBody st) (defScope st) [] [] f fd ∧ G.mg g = some (.ref f)
theorem DefA.callee {G : Cfg} {g x : Str} {st : Stmt} (d : DefA G g x st) {N ps : List Str} {k : Nat} {S : SpecD} (sc : FnScope N ps (defScope st)) (len : ∀ ds O rk, S ds O rk → ds.length = ps.length)
    (hbind : ∀ (kV doc pm : Value) (an : Option Addr) (cdv ct : Value) (us : List Value), us.length = ps.length → bindArgs (PySem.W.fnOf x x (defArgs st) (defBody st) (defScope st) .none kV doc pm an cdv ct) ⟨us, []⟩ = pure (ps.zip us))
    (hb : ∀ ds O rk, S ds O rk → ∃ (S1 R : Type) (ek : Ek S1 R) (r : R), SS G ⟨k, N, defScope st, true, true⟩ (defBody st) (frame0 N ds) O ek (.rt r) ∧ ek.rs r = rk) : Callee G (k + 1) g S := by
  obtain ⟨f, fd, F, e⟩ := d.ex
  exact callee_of (fn_ok F sc len hb) e F.kp (F.bindsN hbind)
section
variable {G : Cfg} {C : Sc} {Γ : Fr} {O : Own} {a : Expr} {pos p1 p2 p3 : Pos} {j : Nat} {xs : List Int}
end
end Kn
namespace Kn
open PySem PySem.Spec L2
end Kn
namespace Kn
open PySem PySem.Spec L2
instance : DecidableEq Stl
  | .story r, .story s => if h : r = s then .isTrue (by rw [h]) else .isFalse fun e => h (by cases e; rfl)
  | .paper r n, .paper s m => if h : r = s ∧ n = m then .isTrue (by rw [h.1, h.2]) else .isFalse fun e => h (by cases e; exact ⟨rfl, rfl⟩)
  | .story _, .paper _ _ => .isFalse fun e => nomatch e
  | .paper _ _, .story _ => .isFalse fun e => nomatch e
def Stl.len : Stl → Int
  | .story _ => 2
  | .paper _ _ => 3
section
variable {G : Cfg} {C : Sc} {Γ : Fr} {O : Own} {S1 R : Type} {kk : Ek S1 R} {oo : Out S1 R} {e a : Expr} {es : List Expr} {d d' : D} {ds ds' : List D} {ss : List Stmt} {pos p1 p2 : Pos} {x : Str} {i j k n : Nat} {p : Addr} {od : OD} {b : Bool} {w : Stl}
theorem t_lend (hi : Γ[i]? = some (some d)) (cv : Cv1 O d d') (h : T G C e (Γ.set i (some d')) [] b) : T G C e Γ O b := ⟨fun X c F σ H hh Q q => by
  have f1 : FrOk H (Γ.set i (some d')) σ := by
    obtain ⟨v, hv, hd⟩ := hh.fr.2 i _ hi
    have a := (hh.fr.mono hh.ho.ex).set i (cv.to F H v hh.ho hd)
    rw [slot_same hv] at a
    exact a
  exact h.run X c H σ H ⟨f1, HoldO.all H⟩ _ fun F' H' e1 h1 => q F H' (Gw.refl F) ⟨hh.fr, hh.ho.back (e1.trans h1.ho.ex)⟩⟩
theorem ss_dropO {c : Addr × OD} (h : SS G C ss Γ O kk oo) : SS G C ss Γ (c :: O) kk oo := .mk fun X cc W tk F σ H hh D m => h.run X cc W tk F σ H ⟨hh.fr, hh.ho.drop⟩ D m
theorem ss_retT {R : Type} {kk : Ek S1 R} {T : (Own → D → Prop) → Prop} {r : R} (h : ET G C e Γ O T) (hr : T fun O' d => ∀ F v H, (∃ F', Gw F F' ∧ HoldO F' O' H ∧ d.ok F' v) → (kk.rs r).ok F v H) : SS G C (.Return (some e) pos :: ss) Γ O kk (.rt r) :=
  ss_cons (t := fun X => tRet (WE X e)) (fun _ _ => ps_ret pe_can) fun X c W tk F σ H hh D m => h.run X c F σ H hh _ hr _ fun F1 H1 v O' d q e1 h1 d1 => m.1 v H1 (q F v H1 ⟨F1, e1, h1.ho, d1⟩)
theorem ss_clrG (hk : O[n]? = some (p, oLst ds)) (ha : E G C a Γ O (dP p)) (hb : ∀ env, attributeBase a "clear" env (eval a env) = eval a env) (hl : (p1.endLine == p2.line) = true)
    (hr : SS G C ss Γ (O.set n (p, oLst [])) kk oo) : SS G C (.Expr (.Call (.Attribute a "clear" p1) [] [] p2) pos :: ss) Γ O kk oo :=
  ss_cons (t := fun X => tDrop (tBM0 X.K "list" rClear (WE X a))) (fun X c => ps_expr (pe_bm0 PySem.F.plainAttrs_list PySem.F.slot_list_clear PySem.F.type_list_clear mt_clear pe_can (hb X.env) hl))
    fun X c W tk F σ H hh D m => by
      refine ha.run X c F σ H hh _ fun F1 H1 v e1 h1 d1 => ?_
      have d1' : v = .ref p := d1
      subst d1'
      obtain ⟨_, o, hp, vs, rfl, hal⟩ := h1.ho.at hk
      refine ⟨.inl ⟨rfl, vs, SqL.of hp⟩, p, vs, rfl, rfl, hp, ?_⟩
      exact hr.run X c W tk F1 σ _ ⟨h1.fr, h1.ho.write hk ⟨_, rfl, (show AllD F1 [] [] from trivial)⟩⟩ D (meet.mono e1 m)
end
end Kn
namespace Kn
open PySem PySem.Spec L2 PyProof.Rows
section
variable {X : Cx} {pins : List (Addr × Obj)} {σ : L2.St} {H : Hp} {sI s s' : Shared} {B : Heap} {a : Addr} {o : HO}
end
section
variable {X : Cx} {x n : Str} {c : Value} {i : Nat} {body suite : List Stmt} {b₀ : Stmt} {np pos pos' : Pos} {tb : WX → TS} {ts : Addr → Value → Option Addr → TS}
end
structure Xd where
  n : Str
  fs : List Str := []
  ds : List D := []
def xok (G : Cfg) (x : Xd) (F : Hp) (c : Value) (d : Option Addr) : Prop := ∃ C, G.mg x.n = some (.ref C) ∧ c = .ref C ∧ match x.fs with
  | [] => d = none
  | f :: fs => ∃ dd vs, d = some dd ∧ F dd = some (.xd ((f :: fs).zip vs)) ∧ vs.length = (f :: fs).length ∧ AllD F x.ds vs
def RK.exc (G : Cfg) (x : Xd) (O : Own) : RK := ⟨fun _ _ _ => False, fun _ z => z, fun F c d H => ∃ F', Gw F F' ∧ HoldO F' O H ∧ xok G x F' c d, fun e ⟨F', e2, h, q⟩ => ⟨F', e.trans e2, h, q⟩⟩
def XD.at (G : Cfg) (x : Xd) (Γ : Fr) (O : Own) : XD := ⟨fun F c d σ H => ∃ F', Gw F F' ∧ Hold F' Γ O σ H ∧ xok G x F' c d, fun e ⟨F', e2, h, q⟩ => ⟨F', e.trans e2, h, q⟩⟩
abbrev Sc.cold (C : Sc) : Sc := ⟨C.k, C.N, C.sc, C.top, false⟩
theorem InC.suite {G : Cfg} {C : Sc} {X : Cx} (c : InC G C X) {a : Addr} {pn : List (Addr × Obj)} : InC G C.cold (X.suite a pn) := ⟨c.p, c.w, c.K, c.mg, c.base, c.n, c.sc, fun z => (Bool.false_ne_true z).elim, c.un, c.dp, fun z => (Bool.false_ne_true z).elim, c.st, PassesOwn.never, c.fn⟩
section
variable {G : Cfg} {C : Sc} {Γ Γ1 : Fr} {O O1 : Own} {S1 S2 R R2 B : Type} {kk : Ek S1 R} {oo : Out S1 R} {e a b : Expr} {es : List Expr} {d d' : D} {ds ds' : List D} {ss suite body : List Stmt} {b₀ : Stmt} {pos pos' np p1 p2 p3 : Pos} {x y n m : Str} {i j k : Nat} {xd : Xd} {S : SpecD}
end
end Kn
namespace Kn
open PySem PySem.Spec L2 PyProof.Rows
section
variable {G : Cfg} {C : Sc} {Γ : Fr} {O : Own} {pos : Pos} {x y : Str} {t : String} {xd : Xd} {b : Bool}
end
section
variable {K : PySem.W.Frag} {P : Program} {w : World} {mg : Str → Option Value} {base h : Heap} {x y : Str} {t : String} {b : Bool}
end
section
variable {G : Cfg} {C : Sc} {Γ : Fr} {O : Own} {S1 R B : Type} {kk : Ek S1 R} {oo : Out S1 R} {a b c : Expr} {ds ds' : List D} {ta ss : List Stmt} {pos : Pos} {α : Type} {f : α → D}
end
end Kn
namespace Kn
open PySem PySem.Spec L2
def lo {α β : Type} (o : Option α) (n : β) (f : α → β) : β := match o with
  | none => n
  | some x => f x
section
variable {G : Cfg} {C : Sc} {Γ Γ' : Fr} {O : Own} {S1 R B : Type} {kk : Ek S1 R} {oo : Out S1 R} {e a b c : Expr} {es : List Expr} {d d' : D} {ds : List D} {ss ta tb body : List Stmt} {pos p1 p2 p3 : Pos} {x : Str} {α : Type} {f : α → OD} {n m i k : Nat} {p q : Addr} {od : OD}
end
end Kn
namespace Kn
open PySem PySem.Spec L2
end Kn
namespace Kn
open PySem PySem.Spec L2
section
variable {α β : Type}
theorem app_le {c : Bool} {s : List α} {x : α} : (if c = true then lt (s ++ [x]) fun y => y else s).length ≤ s.length + 1 := by
  split
  · show (s ++ [x]).length ≤ _; rw [List.length_append]; exact Nat.le_refl _
  · omega
end
end Kn
namespace Kn
open PySem PySem.Spec L2 RT PyProof.Rows PySem.W
section
variable {prog : Program} {w : World} {Ar : Around} {E0 : Value → Shared → Prop} {sh : Shared}
end
section
variable {X : Cx}
end
section
variable {G : Cfg} {C : Sc} {Γ : Fr} {O : Own} {a : Expr} {p1 p2 p3 p4 : Pos} {α : Type} {f : α → D}
end
end Kn
namespace Kn
open PySem PySem.Spec L2
def SD.own (S : Own → Prop) : SD := ⟨fun F _ H => ∃ F' O', S O' ∧ Gw F F' ∧ HoldO F' O' H, fun e ⟨F', O', h1, e2, h2⟩ => ⟨F', O', h1, e.trans e2, h2⟩⟩
def RK.unitS (S : Own → Prop) : RK := ⟨fun F v H => v = .non ∧ ∃ F' O', S O' ∧ Gw F F' ∧ HoldO F' O' H, fun e ⟨h, F', O', h1, e2, h2⟩ => ⟨h, F', O', h1, e.trans e2, h2⟩, noXo, fun _ z => z⟩
section
variable {G : Cfg} {C : Sc} {Γ : Fr} {O : Own} {S1 R B : Type} {kk : Ek S1 R} {oo : Out S1 R} {e a b c o : Expr} {es : List Expr} {d da db : D} {ds fs : List D} {ss ta : List Stmt} {pos p1 p2 p3 : Pos} {x f m y : Str} {α β : Type} {ns : List Str} {S : SpecD} {k n : Nat} {p : Addr} {od : OD}
theorem ss_pull {q : Addr × OD} (hk : O[n]? = some q) (h : SS G C ss Γ (q :: O.eraseIdx n) kk oo) : SS G C ss Γ O kk oo := .mk fun X cc W tk F σ H hh D mm => h.run X cc W tk F σ H ⟨hh.fr, hh.ho.pull (p := q.1) (od := q.2) hk⟩ D mm
theorem ss_fldN (hk : O[n]? = some (p, oIns G x ns ds)) (h : EN G C e Γ O od) (ha : ∀ q, E G C a Γ ((q, od) :: O) (dP p)) (nf : ns.contains f = false) (na : NoAt G x f) (hl : ns.length < 1000) (hs : ∀ env, swapsWith e (some (.Attribute a f p1)) pos.line env = pure false)
    (hr : ∀ q, SS G C ss Γ ((q, od) :: O.set n (p, oIns G x (ns ++ [f]) (ds ++ [dP q]))) kk oo) : SS G C (.Assign [.Attribute a f p1] e pos :: ss) Γ O kk oo :=
  ss_cons (t := fun X => sFld X.K (WE X a) (WE X e) f) (fun X c => ps_fld pe_can pe_can (hs X.env)) fun X c W tk F σ H hh D mm => by
    refine h.run X c F σ H hh _ fun F1 H1 q e1 h1 => ?_
    refine (ha q).run X c F1 σ H1 h1 _ fun F2 H2 v e2 h2 d2 => ?_
    have hv : v = .ref p := d2
    subst hv
    have hk2 : ((q, od) :: O)[n + 1]? = some (p, oIns G x ns ds) := hk
    obtain ⟨_, ob, hp, Cl, dx, vs, rfl, hC, hln, hvs⟩ := h2.ho.at hk2
    obtain ⟨C2, h3, h4⟩ := na
    have ec := ClsAt.same hC.mg h3
    subst ec
    have hvl : vs.length = ns.length := (AllD.length hvs).trans hln
    refine ⟨p, Cl, dx, _, rfl, hp, by rw [c.K]; exact hC.cl, by rw [c.K]; exact h4, ?_, ?_⟩
    · rw [List.length_zip]
      omega
    · rw [zip_put nf hvl]
      refine (hr q).run X c W tk F2 σ _ ⟨h2.fr, h2.ho.write hk2 ⟨Cl, dx, vs ++ [.ref q], rfl, hC, ?_, AllD.append (es := [dP q]) (us := [.ref q]) hvs ⟨rfl, trivial⟩⟩⟩ D (meet.mono (e1.trans e2) mm)
      rw [List.length_append, List.length_append, hln]
      rfl
end
end Kn
namespace Kn
open PySem PySem.Spec L2
abbrev SightV := Str × Int × List Str
abbrev TalkV := Int × Str × Str × Str
inductive Dd where
  | see (s : SightV)
  | talk (t : TalkV)
  | say (y : Sy)
  | unsay (n : Int)
instance : Inhabited Dd := ⟨.unsay 0⟩
def Dd.kd : Dd → Str
  | .see _ => "see"
  | .talk _ => "talk"
  | .say _ => "say"
  | .unsay _ => "unsay"
def Dd.tk : Dd → TalkV
  | .talk t => t
  | _ => default
def Dd.no : Dd → Int
  | .unsay n => n
  | _ => 0
def Dd.ds (K : PySem.W.Frag) : Dd → List D
  | .see s => [dS "see", dT3 K dS dI (dVt K dS) s]
  | .talk t => [dS "talk", dT4 K dI dS dS dS t]
  | .say y => [dS "say", dSy K y]
  | .unsay n => [dS "unsay", dI n]
section
variable {G : Cfg} {C : Sc} {Γ : Fr} {O : Own} {a : Expr} {w : Dd} {p1 pos : Pos} {n : Nat}
end
end Kn
namespace Kn
open PySem PySem.Spec L2
def syA : Sy → Va
  | .knew p h => .tup [.str "knew", .str p, .int h]
  | .unheard p h => .tup [.str "unheard", .str p, vaO Va.int h]
  | .silent p a b => .tup [.str "silent", .str p, .int a, .int b]
  | .barred p q => .tup [.str "barred", .str p, .str q]
section
variable {G : Cfg} {C : Sc} {Γ : Fr} {O : Own} {α β γ δ ε : Type} {f : α → D} {g : β → D} {h : γ → D} {i : δ → D} {j : ε → D} {a : Expr} {p1 pos : Pos}
theorem sy_any (x : Sy) : dSy G.K x = dA G.K (syA x) := by
  cases x with
  | knew p h => rw [syA, dA_tup]; simp only [List.map_cons, List.map_nil, dA_str, dA_int]; rfl
  | unheard p h => rw [syA, dA_tup]; simp only [List.map_cons, List.map_nil, dA_str, ← any_opt (G := G) (f := dI) (fun x => (dA_int x).symm) h]; rfl
  | silent p h k => rw [syA, dA_tup]; simp only [List.map_cons, List.map_nil, dA_str, dA_int]; rfl
  | barred p q => rw [syA, dA_tup]; simp only [List.map_cons, List.map_nil, dA_str]; rfl
theorem any_h4 {p : α → Va} {q : β → Va} {r : γ → Va} {s : δ → Va} (hp : ∀ x, f x = dA G.K (p x)) (hq : ∀ x, g x = dA G.K (q x)) (hr : ∀ x, h x = dA G.K (r x)) (hs : ∀ x, i x = dA G.K (s x)) (x : α × β × γ × δ) : dLst G.K [f x.1, g x.2.1, h x.2.2.1, i x.2.2.2] = dA G.K (.lst [p x.1, q x.2.1, r x.2.2.1, s x.2.2.2]) := by
  rw [dA_lst]
  simp only [List.map_cons, List.map_nil, hp, hq, hr, hs]
end
theorem fit_sy {n : Nat} {x : Sy} : Fit (n + 1) (syA x) := by
  cases x with
  | knew p h => exact fit_t3 fit_str fit_str fit_int
  | unheard p h => cases h with
    | none => exact fit_t3 fit_str fit_str fit_non
    | some h => exact fit_t3 fit_str fit_str fit_int
  | silent p a b => exact fit_t4 fit_str fit_str fit_int fit_int
  | barred p q => exact fit_t3 fit_str fit_str fit_str
end Kn
namespace Kn
open PySem PySem.Spec PyProof.Rows L2
abbrev NE := NestedKey × Addr × V
abbrev NX := NestedKey × Addr × Value
def entN (p : NE) (q : NX) : Prop := p.1 = q.1 ∧ p.2.1 = q.2.1 ∧ RelV p.2.2 q.2.2
def nDict (P : Program) (w : World) (a : Addr) (us : List NE) (h : Heap) : Prop :=
  us.length ≤ sizeLine ∧ (a == sysModules) = false ∧ ∃ xs : List NX, Paired entN us xs ∧ ∃ o es ep, h.get? a = some o ∧ o.ExactDict ∧ o.data = .dict es ep ∧ es.toList = xs.map (entryOfKey (nestedKind P w)) ∧ (xs.map (·.1)).Nodup
def hoN (P : Program) (w : World) (a : Addr) (us : List NE) : HO := .ext (nDict P w a us)
def NK (X : Cx) (H : Hp) (k : NestedKey) (b : Addr) : Prop := k.depth ≤ 8 ∧ ∀ pins σ s, Inv X pins σ H s → NestedIs s.heap k (.ref b)
def NDic (X : Cx) (H : Hp) (a : Addr) (us : List NE) : Prop := Rd H a (hoN X.prog X.w a us) ∧ ∀ u ∈ us, NK X H u.1 u.2.1
section
variable {X : Cx} {pins : List (Addr × Obj)} {σ : L2.St} {H : Hp} {s : Shared} {a b : Addr} {us : List NE} {k : NestedKey} {A : Around} {E : Value → Shared → Prop}
theorem nd_ok (I : Inv X pins σ H s) (h : Rd H a (hoN X.prog X.w a us)) : nDict X.prog X.w a us s.heap := (show ObjOk X.prog X.w H s.heap a (hoN X.prog X.w a us) from h.ok I.hok).1
theorem paired_mem {α β : Type} {G : α → β → Prop} {l₁ : List α} {l₂ : List β} (h : Paired G l₁ l₂) : ∀ b ∈ l₂, ∃ a ∈ l₁, G a b := by
  induction h with
  | nil => intro b hb; cases hb
  | @cons x y l₁ l₂ r t ih =>
    intro b hb
    rcases List.mem_cons.mp hb with rfl | hb
    · exact ⟨x, List.mem_cons_self, r⟩
    · obtain ⟨z, hz, q⟩ := ih b hb
      exact ⟨z, List.mem_cons_of_mem _ hz, q⟩
theorem NDic.of (I : Inv X pins σ H s) (h : NDic X H a us) : us.length ≤ sizeLine ∧ (a == sysModules) = false ∧ ∃ xs, Paired entN us xs ∧ s.heap.DictOfH (nestedKind X.prog X.w) a xs := by
  obtain ⟨z, hd, xs, r, o, es, ep, e, hx, hdt, he, hn⟩ := nd_ok I h.1
  refine ⟨z, hd, xs, r, o, es, ep, e, hx, hdt, he, fun x hx => ?_, hn⟩
  obtain ⟨u, hu, q⟩ := paired_mem r x hx
  obtain ⟨q1, q2⟩ := h.2 u hu
  rw [← q.1, ← q.2.1]
  exact ⟨q2 pins σ s I, q1⟩
theorem NK.is (I : Inv X pins σ H s) (h : NK X H k b) : (nestedKind X.prog X.w).is s.heap k b := ⟨h.2 pins σ s I, h.1⟩
end
def NIs (K : PySem.W.Frag) (d : D) (k : NestedKey) : Prop := ∀ F H v, Gw F H → d.ok F v → ∀ (X : Cx) (pins : List (Addr × Obj)) (σ : L2.St) (s : Shared) (u : Value), X.K = K → Inv X pins σ H s → RelV v u → NestedIs s.heap k u
structure NKey {κ : Type} (K : PySem.W.Frag) (kn : κ → NestedKey) (dk : κ → D) : Prop where
  inj : ∀ a b, kn a = kn b ↔ a = b
  dep : ∀ k, (kn k).depth ≤ 8
  ref : ∀ k F v, (dk k).ok F v → ∃ b, v = .ref b
  is : ∀ k, NIs K (dk k) (kn k)
section
variable {κ α : Type}
def AllN (F : Hp) (kn : κ → NestedKey) (dk : κ → D) (f : α → D) : List (κ × α) → List NE → Prop
  | [], [] => True
  | q :: kvs, u :: us => (u.1 = kn q.1 ∧ (dk q.1).ok F (.ref u.2.1) ∧ (f q.2).ok F u.2.2) ∧ AllN F kn dk f kvs us
  | _, _ => False
variable {F F' : Hp} {kn : κ → NestedKey} {dk : κ → D} {f : α → D}
theorem AllN.mono (e : Gw F F') : ∀ {kvs : List (κ × α)} {us : List NE}, AllN F kn dk f kvs us → AllN F' kn dk f kvs us
  | [], [], _ => trivial
  | _ :: _, _ :: _, h => ⟨⟨h.1.1, (dk _).mono e h.1.2.1, (f _).mono e h.1.2.2⟩, AllN.mono e h.2⟩
  | [], _ :: _, h => h.elim
  | _ :: _, [], h => h.elim
theorem AllN.length : ∀ {kvs : List (κ × α)} {us : List NE}, AllN F kn dk f kvs us → us.length = kvs.length
  | [], [], _ => rfl
  | _ :: _, _ :: _, h => by rw [List.length_cons, List.length_cons, AllN.length h.2]
  | [], _ :: _, h => h.elim
  | _ :: _, [], h => h.elim
theorem AllN.get : ∀ {kvs : List (κ × α)} {us : List NE} {i : Nat} {q : κ × α}, AllN F kn dk f kvs us → kvs[i]? = some q → ∃ u, us[i]? = some u ∧ u.1 = kn q.1 ∧ (dk q.1).ok F (.ref u.2.1) ∧ (f q.2).ok F u.2.2
  | [], [], _, _, _, e => by simp at e
  | _ :: _, u :: _, 0, _, h, e => by simp at e; subst e; exact ⟨u, rfl, h.1⟩
  | _ :: _, _ :: _, i + 1, q, h, e => by
    obtain ⟨u, h1, h2⟩ := AllN.get (i := i) (q := q) h.2 (by simpa using e)
    exact ⟨u, by simpa using h1, h2⟩
  | [], _ :: _, _, _, h, _ => h.elim
  | _ :: _, [], _, _, h, _ => h.elim
variable [DecidableEq κ]
theorem AllN.any {K : PySem.W.Frag} (nk : NKey K kn dk) {k : κ} : ∀ {kvs : List (κ × α)} {us : List NE}, AllN F kn dk f kvs us → (us.any fun u => decide (u.1 = kn k)) = dHas kvs k
  | [], [], _ => rfl
  | q :: kvs, u :: us, h => by
    have ih := AllN.any nk (k := k) h.2
    show (decide (u.1 = kn k) || us.any _) = (decide (q.1 = k) || dHas kvs k)
    rw [ih, h.1.1, dec_iff (nk.inj _ _)]
  | [], _ :: _, h => h.elim
  | _ :: _, [], h => h.elim
end
section
variable {G : Cfg} {C : Sc} {Γ : Fr} {O : Own} {S1 R B : Type} {kk : Ek S1 R} {oo : Out S1 R} {e a b c : Expr} {es : List Expr} {d da db : D} {ss : List Stmt} {pos p1 p2 p3 : Pos} {x : Str} {κ α : Type} {kn : κ → NestedKey} {dk : κ → D} {f : α → D} {kvs : List (κ × α)} {key : κ} {n : Nat} {p : Addr}
theorem E.go (h : E G C e Γ O d) {X : Cx} (c : InC G C X) {F : Hp} {σ : L2.St} {H : Hp} (hh : Hold F Γ O σ H) {pins : List (Addr × Obj)} {s : Shared} (I : Inv X pins σ H s) :
    wpAny (model X.prog X.w) X.A (eval e X.env) (fun u s' => ∃ v F' H', Inv X pins σ H' s' ∧ RelV v u ∧ Gw F F' ∧ Hold F' Γ O σ H' ∧ d.ok F' v) X.xe s :=
  thn (h.run X c F σ H hh (fun v H' => ∃ F', Gw F F' ∧ Hold F' Γ O σ H' ∧ d.ok F' v) (fun F' H' v e1 h1 d1 => ⟨F', e1, h1, d1⟩) pins s I) fun u s' ⟨v, H', I', r, F', e1, h1, d1⟩ => ⟨v, F', H', I', r, e1, h1, d1⟩
variable [DecidableEq κ]
end
end Kn
namespace Kn
open PySem PySem.Spec PyProof.Rows L2
section
variable {X : Cx} {pins : List (Addr × Obj)} {σ : L2.St} {H : Hp} {s : Shared} {d : Addr} {o : Obj} {us : List NE}
end
section
variable {P : Program} {w : World} {K : PySem.W.Frag} {tg : Expr} {d : Addr} {o : Obj} {us : List NE} {ea : Array DictEntry} {ep : Nat}
end
section
variable {G : Cfg} {C : Sc} {Γ : Fr} {O : Own} {S S1 R B : Type} {kk : Ek S1 R} {oo : Out S1 R} {e a b c it tg : Expr} {es : List Expr} {d da db : D} {ss : List Stmt} {st : Stmt} {pos p1 p2 p3 : Pos} {x : Str} {κ α : Type} {kn : κ → NestedKey} {dk : κ → D} {f : α → D} {kvs : List (κ × α)} {key : κ} {n : Nat} {p : Addr} {P P0 : Own → Prop}
end
end Kn
namespace Kn
open PySem PySem.Spec PySem.W PyProof.Rows L2
section
variable {G : Cfg} {C : Sc} {Γ : Fr} {O : Own} {S S1 R B : Type} {kk : Ek S1 R} {oo : Out S1 R} {e a b c it tg : Expr} {es : List Expr} {d da db : D} {ss : List Stmt} {st : Stmt} {pos p1 p2 p3 : Pos} {x : Str} {κ α : Type} {kn : κ → NestedKey} {dk : κ → D} {f : α → D} {kvs : List (κ × α)} {key : κ} {n : Nat} {p : Addr}
end
end Kn
namespace Kn
open PySem PySem.Spec PyProof.Rows L2
section
variable {P : Program} {w : World} {A : Around} {E : Value → Shared → Prop} {s : Shared}
end
section
variable {G : Cfg} {C : Sc} {Γ : Fr} {O : Own} {a b c e : Expr} {p1 p2 p3 pos : Pos} {S1 R B : Type} {kk : Ek S1 R} {oo : Out S1 R} {ss : List Stmt} {κ α : Type} {kn : κ → NestedKey} {dk : κ → D} {f : α → D} {kvs : List (κ × α)} {key : κ} {n : Nat} {p : Addr}
end
end Kn
namespace Kn
open PySem PySem.Spec PySem.W L2
section
variable {G : Cfg} {x m q : Str} {st : Stmt} {N ps : List Str} {k : Nat} {S : SpecD}
end
abbrev TelV := Int × Str × Str
inductive Lw where
  | saw (i : Int)
  | heard (t : TelV) (s : Str × Int)
deriving Inhabited
def Lw.kd : Lw → Str
  | .saw _ => "saw"
  | .heard _ _ => "heard"
def Lw.no : Lw → Int
  | .saw i => i
  | .heard _ _ => 0
def Lw.ds (K : PySem.W.Frag) : Lw → List D
  | .saw i => [dS "saw", dI i]
  | .heard t s => [dS "heard", dT3 K dI dS dS t, dT2 K dS dI s]
section
variable {G : Cfg} {C : Sc} {Γ : Fr} {O : Own} {a : Expr} {pos p1 : Pos} {n : Nat} {w : Lw}
end
section
variable {G : Cfg} {C : Sc} {O : Own} {α : Type} [DecidableEq α] {f : α → D} {p : α → PyData} {n : Nat} {a b : α}
end
section
variable {G : Cfg} {C : Sc} {Γ : Fr} {O : Own} {S1 R B : Type} {kk : Ek S1 R} {oo : Out S1 R} {e a b c : Expr} {d : D} {ss ta tb : List Stmt} {pos p1 : Pos} {i n : Nat} {p : Addr} {od : OD} {ks : List Str} {key : Str}
end
theorem putIf_len {κ α : Type} [DecidableEq κ] {c : Prop} [Decidable c] {kvs : List (κ × α)} {k : κ} {v : α} : (if c then dPut kvs k v else kvs).length ≤ kvs.length + 1 := by
  split
  · exact dPut_len
  · exact Nat.le_succ _
end Kn
namespace Kn
open PySem PySem.Spec L2
section
variable {G : Cfg} {C : Sc} {Γ : Fr} {O : Own} {x : Va} {xs : List Str}
end
end Kn
namespace Kn
open PySem PySem.Spec PySem.Calls PySem.W PyProof.Rows L2
section
variable {G : Cfg} {C : Sc} {Γ : Fr} {O : Own} {S1 S2 R B : Type} {kk : Ek S1 R} {c : Expr} {ss body : List Stmt} {pos : Pos}
end
section
variable {G : Cfg} {C : Sc} {Γ : Fr} {O : Own} {S1 R B : Type} {kk : Ek S1 R} {e : Expr} {ss : List Stmt} {pos p1 : Pos} {x : Str} {α : Type} {i : Nat}
end
section
variable {G : Cfg} {C : Sc} {Γ : Fr} {O : Own} {a : Expr} {p1 p2 p3 pos : Pos}
end
section
variable {G : Cfg} {C : Sc} {O : Own}
end
end Kn
namespace Kn
open PySem PySem.Spec L2
section
variable {G : Cfg} {C : Sc} {Γ : Fr} {O : Own} {e a b : Expr} {es : List Expr} {ks : List Str} {p : Addr} {p1 p2 pos : Pos} {x : Str} {k : Nat}
end
section
variable {G : Cfg} {C : Sc} {O : Own}
end
end Kn
namespace Kn
open PySem PySem.Spec L2
instance : DecidableEq (List (Str × Int × List Str) × List (Int × Str × Str × Str) × List Sy) := @instDecidableEqProd _ _ inferInstance (@instDecidableEqProd _ _ inferInstance inferInstance)
instance : Inhabited BookV := ⟨⟨[], [], [], []⟩⟩
section
variable {G : Cfg} {C : Sc} {Γ : Fr} {O : Own} {S1 S2 R B : Type} {kk : Ek S1 R} {c : Expr} {ss body : List Stmt} {pos : Pos}
end
section
variable {G : Cfg} {C : Sc} {Γ : Fr} {O O1 : Own} {S1 R B : Type} {kk : Ek S1 R} {e a c o : Expr} {es : List Expr} {ss ta : List Stmt} {pos p1 p2 : Pos} {k : Bool} {α : Type} [Inhabited α] {f : α → D} {n j : Nat} {p : Addr} {x m : Str} {ns : List Str} {fs ds : List D} {S : SpecD} {xd : Xd}
theorem AN.bt {T : (Own → List D → Prop) → Prop} (h : AN G C es Γ O T) (pos : Pos) (env : Env) : (backTo pos (starEach es env)).any (·.1) = false := by
  unfold backTo
  rw [List.any_map]
  exact h.st env
end
end Kn
namespace Kn
open PySem PySem.Spec L2
section
variable {G : Cfg} {C : Sc} {Γ : Fr} {O O2 : Own} {S1 R B : Type} {kk : Ek S1 R} {oo : Out S1 R} {e a b : Expr} {ss : List Stmt} {pos p1 p2 : Pos} {k : Bool} {op : CmpOp} {n : Nat} {p : Addr} {ds : List D} {d : D}
end
instance : DecidableEq ((List (Str × Option Int) × Stl) × Option (Option Int × List Str)) := @instDecidableEqProd _ _ inferInstance inferInstance
abbrev Tl := (List (Str × Option Int) × Stl) × Option (Option Int × List Str)
def Tl.ds (K : PySem.W.Frag) (t : Tl) : List D := [dLo K (dT2 K dS (dO dI)) t.1.1, dStl K t.1.2] ++ (match t.2 with
  | none => []
  | some x => [dLst K [dO dI x.1, dLo K dS x.2]])
end Kn
namespace Kn
open PySem PySem.Spec L2 PyProof.Rows
section
variable {X : Cx} {e : Expr} {es : List Expr} {ta : TA} {y : Str} {p1 p2 pos : Pos} {Cy : Addr} {mc : Value} {pl : Sem Bool}
end
section
variable {G : Cfg} {C : Sc} {Γ : Fr} {O : Own} {S1 R : Type} {kk : Ek S1 R} {e : Expr} {d : D} {ss : List Stmt} {pos p1 p3 : Pos} {x q y f a : Str} {st : Stmt} {k : Nat}
end
end Kn
namespace Kn
open PySem PySem.Spec L2 PyProof.Rows
section
variable {X : Cx} {CX : CXT} {k : Nat} {f C : Addr} {fd : FuncData} {ps : List Str} {sp : Sp} {E : L2.St → XK} {x m : Str} {p pos apos : Pos} {e o : Expr} {es : List Expr} {ta : TE} {t : TA}
end
section
variable {G : Cfg} {C : Sc} {Γ : Fr} {O : Own} {S1 R : Type} {kk : Ek S1 R} {e o : Expr} {es : List Expr} {d : D} {ds fs : List D} {ss : List Stmt} {pos p1 p2 : Pos} {x m : Str} {k n : Nat} {p : Addr} {ns : List Str} {xd : Xd} {S : SpecD} {b : Bool}
end
section
variable {K : PySem.W.Frag} {P : Program} {w : World} {mg : Str → Option Value} {base h : Heap} {x y f q : Str} {st : Stmt} {fa : List He.Fa} {fn : List He.DefD} {i : Nat}
end
end Kn
namespace Kn
open PySem PySem.Spec L2 PyProof.Rows
section
variable {G : Cfg} {C : Sc} {Γ : Fr} {O : Own} {a b : Expr} {pos : Pos} {xs : List Va} {m : Int} {x q : Str} {st : Stmt} {N ps : List Str} {k : Nat} {S : SpecD}
end
end Kn
namespace Kn
open PySem PySem.Spec L2
section
variable {G : Cfg} {C : Sc} {Γ : Fr} {O O1 : Own} {S1 R B : Type} {kk : Ek S1 R} {e a b : Expr} {es : List Expr} {d db : D} {ss : List Stmt} {pos : Pos} {k k' : Bool} {op : CmpOp} {f1 : Addr → Own}
end
end Kn
namespace Kn
open PySem PySem.Spec L2
instance : DecidableEq ((List Str) × (List (Str × Int × (List Str))) × (List (Int × Str × Str × Str)) × (List Sy) × (List (Int × Str × Str))) := fun a b =>
  haveI : DecidableEq (List Str) := inferInstance
  haveI : DecidableEq (List (Str × Int × (List Str))) := inferInstance
  haveI : DecidableEq (List (Int × Str × Str × Str)) := inferInstance
  haveI : DecidableEq (List Sy) := inferInstance
  haveI : DecidableEq (List (Int × Str × Str)) := inferInstance
  haveI : DecidableEq ((List Sy) × (List (Int × Str × Str))) := instDecidableEqProd
  haveI : DecidableEq ((List (Int × Str × Str × Str)) × (List Sy) × (List (Int × Str × Str))) := instDecidableEqProd
  haveI : DecidableEq ((List (Str × Int × (List Str))) × (List (Int × Str × Str × Str)) × (List Sy) × (List (Int × Str × Str))) := instDecidableEqProd
  (instDecidableEqProd : DecidableEq ((List Str) × (List (Str × Int × (List Str))) × (List (Int × Str × Str × Str)) × (List Sy) × (List (Int × Str × Str)))) a b
section
variable {G : Cfg} {C : Sc} {Γ Γ' : Fr} {O : Own} {S1 R B : Type} {kk : Ek S1 R} {oo : Out S1 R} {e a b c : Expr} {es : List Expr} {d d' : D} {ds ds' : List D} {ss body : List Stmt} {pos p1 p2 p3 : Pos} {x : Str} {α : Type} {f : α → D} {n m i k : Nat} {p q : Addr} {od : OD}
theorem cv1_lst (h : Cv O ds ds') : Cv1 O (dLst G.K ds) (dLst G.K ds') := ⟨fun F H v hh ⟨p, vs, e, hs, hal⟩ => ⟨p, vs, e, hs.mono hh.ex, h.to F H vs hh hal⟩⟩
theorem et_lst {T : (Own → List D → Prop) → Prop} (h : AN G C es Γ O T) (hlen : ∀ R, T R → T fun O' ds => R O' ds ∧ ds.length ≤ 1000) : ET G C (.List es pos) Γ O (fun R => T fun O' ds => R O' (dLst G.K ds)) := .mk fun X c F σ H hh R t Q q => by
  refine we_of (pe_lst pa_can) (h.run X c F σ H hh _ (hlen _ t) _ fun F1 H1 vs O' ds r e1 h1 d1 => ⟨?_, fun p hp => ?_⟩)
  · rw [AllD.length d1]; exact Nat.le_trans r.2 (by decide)
  · obtain ⟨F2, e2, h2, d2⟩ := freeze_lst (G := G) (h1.ho.own hp ⟨vs, rfl, d1⟩)
    exact q F2 _ _ O' _ r.1 (e1.trans e2) ⟨h1.fr.mono e2, h2⟩ d2
def Tupy (d : D) : Prop := ∀ (F F' : Hp) (v : V), (∀ a vs, Rd F a (.tup vs) → Rd F' a (.tup vs)) → d.ok F v → d.ok F' v
def NoTups (O : Own) : Prop := ∀ q ∈ O, ∀ F vs, ¬ q.2.ok F (.tup vs) ∧ ∀ o, ¬ q.2.ok F (.frz o (.tup vs))
theorem nt_nil : NoTups [] := fun _ h => nomatch h
theorem nt_lst (h : NoTups O) : NoTups ((p, oLst ds) :: O) := fun q hq => by
  rcases List.mem_cons.mp hq with rfl | hq
  · refine fun F vs => ⟨fun h => ?_, fun o h => ?_⟩
    · obtain ⟨_, z, _⟩ := h
      cases z
    · obtain ⟨_, z, _⟩ := h
      cases z
  · exact h q hq
theorem ty_V {v : V} : Tupy (dV v) := fun _ _ _ _ h => h
theorem ty_S {s : Str} : Tupy (dS s) := fun _ _ _ _ h => h
theorem ty_all : ∀ {ds : List D}, (∀ d ∈ ds, Tupy d) → ∀ (F F' : Hp) (vs : List V), (∀ a vs, Rd F a (.tup vs) → Rd F' a (.tup vs)) → AllD F ds vs → AllD F' ds vs
  | [], _, F, F', [], _, _ => trivial
  | [], _, F, F', _ :: _, _, q => q.elim
  | d :: ds, h, F, F', [], _, q => q.elim
  | d :: ds, h, F, F', v :: vs, g, q => ⟨h d List.mem_cons_self F F' v g q.1, ty_all (fun e he => h e (List.mem_cons_of_mem _ he)) F F' vs g q.2⟩
theorem ty_T (h : ∀ d ∈ ds, Tupy d) : Tupy (dTup G.K ds) := fun F F' v g ⟨a, vs, h1, h2, h3⟩ => ⟨a, vs, h1, h2.imp (g a vs) id, ty_all h F F' vs g h3⟩
theorem ty_Vt {xs : List α} (h : ∀ a, Tupy (f a)) : Tupy (dTup G.K (xs.map f)) := ty_T fun d hd => by
  obtain ⟨a, _, rfl⟩ := List.mem_map.mp hd
  exact h a
theorem ty_nil : ∀ d ∈ ([] : List D), Tupy d := fun _ h => nomatch h
theorem ty_cons (h : Tupy d) (hr : ∀ e ∈ ds, Tupy e) : ∀ e ∈ d :: ds, Tupy e := fun e he => by
  rcases List.mem_cons.mp he with rfl | he
  · exact h
  · exact hr e he
theorem ty_Sy {s : Sy} : Tupy (dSy G.K s) := by
  refine ty_T fun d hd => ?_
  cases s with
  | knew a b => exact ty_cons ty_S (ty_cons ty_S (ty_cons ty_V ty_nil)) d hd
  | unheard a b => cases b <;> exact ty_cons ty_S (ty_cons ty_S (ty_cons ty_V ty_nil)) d hd
  | silent a b c => exact ty_cons ty_S (ty_cons ty_S (ty_cons ty_V (ty_cons ty_V ty_nil))) d hd
  | barred a b => exact ty_cons ty_S (ty_cons ty_S (ty_cons ty_S ty_nil)) d hd
end
end Kn
namespace Kn
open PySem PySem.Spec PyProof.Rows L2
def RK.sum {ε α : Type} (G : Cfg) (fx : ε → Xd) (fd : α → D) (O : Own) : Except ε α → RK
  | .ok a => RK.val (fd a) O
  | .error e => RK.exc G (fx e) O
def ls {ε α β : Type} (o : Except ε α) (g : ε → β) (f : α → β) : β := match o with
  | .ok a => f a
  | .error e => g e
section
variable {G : Cfg} {C : Sc} {Γ Γ1 : Fr} {O O1 : Own} {S S1 S2 R R2 B : Type} {kk : Ek S1 R} {oo : Out S1 R} {e a b c : Expr} {es : List Expr} {d d' : D} {ds ds' : List D} {ss suite body : List Stmt} {h₀ : ExceptHandler} {hds : List ExceptHandler} {pos pos' np p1 p2 p3 : Pos} {x y n m : Str} {i j k : Nat} {xd : Xd} {α ε : Type} {f : α → D}
end
end Kn
namespace Kn
open PySem PySem.Spec PyProof.Rows L2
section
variable {G : Cfg} {C : Sc} {Γ : Fr} {O : Own} {P : Own → Prop} {S S1 R B A : Type} {k : Ek S R} {o : Out S R} {it tg a b c : Expr} {ds : List D} {ss body ta tb : List Stmt} {pos p1 p2 : Pos} {α : Type} {f : α → D} {is : List Nat} {n : Nat} {p : Addr}
end
section
variable {G : Cfg} {C : Sc} {Γ : Fr} {O : Own} {a b : Expr} {pos : Pos}
end
end Kn
namespace Kn
open PySem PySem.Spec PyProof.Rows L2
section
variable {G : Cfg} {C : Sc} {Γ : Fr} {O : Own} {a b : Expr} {pos p1 : Pos}
end
end Kn
namespace Kn
open PySem PySem.Spec L2 PyProof.Rows
section
variable {X : Cx}
end
section
variable {G : Cfg} {C : Sc} {Γ : Fr} {O : Own} {x : Va} {xs : List Str}
end
end Kn
namespace Kn
open PySem PySem.Spec L2 PyProof.Rows
section
variable {G : Cfg} {C : Sc} {Γ : Fr} {O : Own} {a b : Expr} {pos : Pos} {α : Type} {f : α → D}
end
end Kn
namespace Kn
open PySem PySem.Spec PyProof.Rows L2
section
variable {G : Cfg} {C : Sc} {Γ Γ1 : Fr} {O O1 : Own} {S S1 S2 R R2 B : Type} {kk : Ek S1 R} {oo : Out S1 R} {e a b c : Expr} {es : List Expr} {d d' : D} {ds ds' : List D} {ss suite body : List Stmt} {h₀ : ExceptHandler} {hds : List ExceptHandler} {pos pos' np p1 p2 p3 : Pos} {x y n m : Str} {i j k : Nat} {xd : Xd} {α ε : Type} {f : α → D}
end
theorem HoldO.swap {F : Hp} {O : Own} {H : Hp} {x y : Addr × OD} (h : HoldO F (x :: y :: O) H) : HoldO F (y :: x :: O) H := by
  refine ⟨h.ex, ?_, fun q hq => h.ow q ?_⟩
  · have n1 := h.nd
    simp only [List.map_cons, List.nodup_cons, List.mem_cons, not_or] at n1 ⊢
    exact ⟨⟨fun z => n1.1.1 z.symm, n1.2.1⟩, n1.1.2, n1.2.2⟩
  · rcases List.mem_cons.mp hq with rfl | hq
    · exact List.mem_cons_of_mem _ List.mem_cons_self
    · rcases List.mem_cons.mp hq with rfl | hq
      · exact List.mem_cons_self
      · exact List.mem_cons_of_mem _ (List.mem_cons_of_mem _ hq)
def vecO (zs : List (Addr × List D)) : Own := zs.map fun z => (z.1, oLst z.2)
section
variable {G : Cfg} {C : Sc} {Γ : Fr} {O : Own} {pos : Pos}
structure ETL (G : Cfg) (C : Sc) (e : Expr) (Γ : Fr) (O : Own) (T : (Own → D → Prop) → Prop) : Prop where
  run : ∀ X, InC G C X → ∃ t : TE, PE X e t ∧ (∀ (i : Nat) (y : Str) (py spos : Pos), X.N[i]? = some y → X.env.scope.names.lookup y = some .local → swapsWith e (some (.Name y py)) spos.line X.env = pure true → PS X (.Assign [.Name y py] e spos) (tAsg t (gName i))) ∧
    ∀ (F : Hp) (σ : L2.St) (H : Hp), Hold F Γ O σ H → ∀ R, T R → ∀ Q : VK, (∀ F' H' v O' d, R O' d → Gw F F' → Hold F' Γ O' σ H' → d.ok F' v → Q v H') → t σ H Q
theorem ss_asgTL {e : Expr} {x : Str} {i : Nat} {p1 : Pos} {ss : List Stmt} {S1 R : Type} {kk : Ek S1 R} {oo : Out S1 R} {T : (Own → D → Prop) → Prop} (l : Loca C i x) (sw : SwL C e x p1 pos) (h : ETL G C e Γ O T) (hr : T fun O' d => SS G C ss (Γ.set i (some d)) O' kk oo) : SS G C (.Assign [.Name x p1] e pos :: ss) Γ O kk oo := .mk fun X c W tk F σ H hh D m => by
  obtain ⟨t, _, h2, h3⟩ := h.run X c
  exact wss_of (pss_cons (h2 i x p1 pos (by rw [c.n]; exact l.n) (by rw [c.sc]; exact sw.l) (sw.sw X.env c.sc)) pss_can) (h3 F σ H hh _ hr _ fun F1 H1 v O' d r e1 h1 d1 => r.run X c W tk F1 _ H1 (Hold.set i h1 d1) D (meet.mono e1 m))
theorem etl_lcO [Calm C] {xs : List (List D)} {od : List D → List D} {tg it elt : Expr} {scope : Scope} {own : List (Str × Nat)} {is : List Nat} {Γ2 : List D → Fr} (nd : C.N.Nodup) (hi : EI G C tg it Γ O anyO (xs.map (dLst G.K))) (ok : BlkOk C.N C.sc scope own)
    (hg : ∀ x, TJ G (C.blk scope) tg (dLst G.K x) (wipeF Γ (own.map (·.2))) (Γ2 x) is) (his : ∀ i ∈ is, i ∈ own.map (·.2))
    (he : ∀ x O', EN G (C.blk scope) elt (Γ2 x) O' (oLst (od x))) (hl : xs.length < 16000000) (hs : ∀ env x, foldedSetIterable it env x = pure x) :
    ETL G C (.ListComp elt [⟨tg, it, [], 0⟩] scope pos) Γ O (fun R => ∀ zs : List (Addr × List D), zs.map (·.2) = (xs.map od).reverse → R (vecO zs ++ O) (dLst G.K (zs.reverse.map fun z => dP z.1))) := .mk fun X c => by
  have nd' : X.N.Nodup := by rw [c.n]; exact nd
  have ok' : BlkOk X.N X.env.scope scope own := by rw [c.n, c.sc]; exact ok
  refine ⟨_, pe_lc (g := BG X scope tg) (tt := BT X scope []) (te := BE X scope elt) c.cm nd' pi_can ok' (fun s H0 A cl fp => ⟨fun pins s1 σ1 H1 v u Q1 I r h => h s H0 A cl fp pins s1 u I r⟩) (fun s H0 A cl fp => ⟨fun pins s1 σ1 H1 Q1 I h => h s H0 A cl fp pins s1 I⟩)
    (fun s H0 A cl fp => ⟨fun pins s1 σ1 H1 Q1 I h => h s H0 A cl fp pins s1 I⟩) (hs X.env), fun i y py spos h1 h2 h3 => ps_setLc c.cm nd' h1 h2 h3 pi_can ok' (fun s H0 A cl fp => ⟨fun pins s1 σ1 H1 v u Q1 I r h => h s H0 A cl fp pins s1 u I r⟩) (fun s H0 A cl fp => ⟨fun pins s1 σ1 H1 Q1 I h => h s H0 A cl fp pins s1 I⟩)
    (fun s H0 A cl fp => ⟨fun pins s1 σ1 H1 Q1 I h => h s H0 A cl fp pins s1 I⟩) (hs X.env), fun F σ H hh R t Q q => ?_⟩
  refine hi.run X c F σ H hh _ fun J F1 H1 e1 h1 fd => ?_
  intro Dl hD
  refine ⟨fun i mm H' => ∃ F' zs, mm = xs.length - i ∧ i ≤ xs.length ∧ zs.map (fun z : Addr × List D => z.2) = ((xs.take i).map od).reverse ∧ Gw F1 F' ∧ HoldO F' ((Dl, oLst (zs.reverse.map fun z => dP z.1)) :: (vecO zs ++ O)) H', ⟨xs.length, F1, [], rfl, Nat.zero_le _, rfl, Gw.refl _, h1.ho.own hD ⟨[], rfl, trivial⟩⟩, ?_⟩
  rintro i mm H' ⟨F', zs, rfl, hil, hz, e2, h2⟩
  by_cases hlt : i < xs.length
  · have hd : (xs.map (dLst G.K))[i]? = some (dLst G.K xs[i]) := by rw [List.getElem?_map, List.getElem?_eq_getElem hlt]; rfl
    have itm := fd.item i _ hd F' _ H' trivial e2 h2
    have htake : xs.take (i + 1) = xs.take i ++ [xs[i]] := List.take_succ_eq_append_getElem hlt
    refine .inr ⟨itm.1, fun H3 => ∃ F3 zs3, zs3.map (fun z : Addr × List D => z.2) = ((xs.take (i + 1)).map od).reverse ∧ Gw F1 F3 ∧ HoldO F3 ((Dl, oLst (zs3.reverse.map fun z => dP z.1)) :: (vecO zs3 ++ O)) H3, fun H3 ⟨F3, zs3, hz3, x3, h3⟩ => ⟨xs.length - (i + 1), by omega, F3, zs3, rfl, hlt, hz3, x3, h3⟩, fun x H3 hy => ?_⟩
    obtain ⟨F3, e3, h3, d3⟩ := itm.2 x H3 hy
    have fr3 : FrOk F3 (wipeF Γ (own.map (·.2))) (wipe σ (own.map (·.2))) := wipe_fr (h1.fr.mono (e2.trans e3)) _
    intro s H0 A cl fp
    refine (hg xs[i]).run _ (c.blk s H0 scope cl A fp) F3 _ _ H3 x ⟨fr3, h3⟩ d3 _ fun σ4 h4 b4 => ?_
    refine ⟨b4.wipe his, fun s' H0' A' cl' fp' => ?_⟩
    refine (ts_nil (Γ := Γ2 xs[i])).run _ (c.blk s' H0' scope cl' A' fp') F3 σ4 H3 h4 _ fun F5 H5 e5 h5 => ?_
    refine iteT fun s6 H06 A6 cl6 fp6 => ?_
    refine (he xs[i] _).run _ (c.blk s6 H06 scope cl6 A6 fp6) F5 σ4 H5 h5 _ fun F6 H6 a e6 h6 => ?_
    obtain ⟨_, o, hq, vs, rfl, ha⟩ := h6.ho.at (k := 1) rfl
    refine ⟨vs, hq, ?_, F6, (a, od xs[i]) :: zs, ?_, (((e2.trans e3).trans e5).trans e6), ?_⟩
    · have hl2 : zs.length = i := by
        have := congrArg List.length hz
        rw [List.length_map, List.length_reverse, List.length_map, List.length_take] at this
        omega
      rw [AllD.length ha, List.length_map, List.length_reverse, hl2]
      have : (sizeLine : Nat) = 16777216 := by rw [sizeLine_eq]
      omega
    · rw [htake, List.map_append, List.reverse_append, List.map_cons, hz]
      rfl
    · have hw := h6.ho.write (k := 1) (od' := oLst ((zs.reverse.map fun z => dP z.1) ++ [dP a])) rfl ⟨_, rfl, AllD.append ha (show AllD F6 [dP a] [V.ref a] from ⟨rfl, trivial⟩)⟩
      have hw2 := HoldO.swap hw
      have e7 : ((a, od xs[i]) :: zs).reverse.map (fun z => dP z.1) = (zs.reverse.map fun z => dP z.1) ++ [dP a] := by
        rw [List.reverse_cons, List.map_append]
        rfl
      rw [e7]
      exact hw2
  · have hi' : i = xs.length := by omega
    subst hi'
    have a := fd.stop F' _ H' trivial e2 h2
    rw [List.length_map] at a
    refine .inl ⟨a, ?_⟩
    rw [List.take_length] at hz
    obtain ⟨F2, e4, h4, d4⟩ := freeze_lst (G := G) h2
    exact q F2 H' _ _ _ (t zs hz) ((e1.trans e2).trans e4) ⟨h1.fr.mono (e2.trans e4), h4⟩ d4
theorem etl_lc4 [Calm C] {d1 d2 d3 d4 : List D} {tg it elt : Expr} {scope : Scope} {own : List (Str × Nat)} {is : List Nat} {Γ2 : List D → Fr} (nd : C.N.Nodup) (hi : EI G C tg it Γ O anyO ([d1, d2, d3, d4].map (dLst G.K))) (ok : BlkOk C.N C.sc scope own)
    (hg : ∀ x, TJ G (C.blk scope) tg (dLst G.K x) (wipeF Γ (own.map (·.2))) (Γ2 x) is) (his : ∀ i ∈ is, i ∈ own.map (·.2))
    (he : ∀ x O', EN G (C.blk scope) elt (Γ2 x) O' (oLst x)) (hs : ∀ env x, foldedSetIterable it env x = pure x) :
    ETL G C (.ListComp elt [⟨tg, it, [], 0⟩] scope pos) Γ O (fun R => ∀ a1 a2 a3 a4, R ((a4, oLst d4) :: (a3, oLst d3) :: (a2, oLst d2) :: (a1, oLst d1) :: O) (dLst G.K [dP a1, dP a2, dP a3, dP a4])) := .mk fun X c => by
  obtain ⟨t0, h1, h2, h3⟩ := (etl_lcO (pos := pos) (od := fun x => x) nd hi ok hg his he (by show 4 < 16000000; decide) hs).run X c
  refine ⟨t0, h1, h2, fun F σ H hh R t Q q => h3 F σ H hh R (fun zs hz => ?_) Q q⟩
  match zs, hz with
  | [(a4, _), (a3, _), (a2, _), (a1, _)], hz =>
    simp only [List.map_cons, List.map_nil, List.reverse_cons, List.reverse_nil, List.nil_append, List.cons_append, List.cons.injEq, and_true] at hz
    obtain ⟨rfl, rfl, rfl, rfl⟩ := hz
    exact t a1 a2 a3 a4
end
section
variable {G : Cfg} {C : Sc} {Γ : Fr} {O : Own} {a b : Expr} {pos : Pos} {α : Type} {f : α → D}
end
end Kn
namespace Kn
open PySem PySem.Spec PyProof.Rows L2
section
variable {G : Cfg} {C : Sc} {O : Own}
end
end Kn
namespace Kn
open PySem PySem.Spec PyProof.Rows L2
section
variable {G : Cfg} {C : Sc} {Γ Γ' : Fr} {O O' O1 : Own} {S1 S2 R B : Type} {kk : Ek S1 R} {oo : Out S1 R} {it e a : Expr} {es : List Expr} {d : D} {ds ds' : List D} {ss body : List Stmt} {pos p1 p2 p3 p4 p5 : Pos} {x : Str} {n k j : Nat} {p : Addr}
theorem ss_same {A B : Nat → SD} {s1 s2 : Nat} (e : A s1 = B s2) (h : SS G C ss Γ O (kk.to A) (.nx s1)) : SS G C ss Γ O (kk.to B) (.nx s2) := .mk fun X c W tk F σ H hh D m =>
  h.run X c W tk F σ H hh D (fun σ' H' q => m σ' H' (by show (B s2).ok F σ' H'; rw [← e]; exact q))
theorem frle_none : ∀ {Γ : Fr} (j : Nat), FrLe Γ (Γ.set j none)
  | [], _ => trivial
  | _ :: _, 0 => ⟨.inl rfl, FrLe.refl⟩
  | _ :: Γ, j + 1 => ⟨.inr rfl, frle_none (Γ := Γ) j⟩
theorem frle_back {j : Nat} {d : D} : FrLe ((Γ.set j none).set j (some d)) (Γ.set j none) := by
  have h := frle_none (Γ := (Γ.set j none).set j (some d)) j
  rw [List.set_set, List.set_set] at h
  rw [List.set_set]
  exact h
theorem ss_for4 [Calm C] {a1 a2 a3 a4 : Addr} {d1 d2 d3 d4 : List D} {h : List D → List D} (l : Loca C j x) (hi : E G C it Γ ((a4, oLst d4) :: (a3, oLst d3) :: (a2, oLst d2) :: (a1, oLst d1) :: O) (dLst G.K [dP a1, dP a2, dP a3, dP a4])) (h1 : d1.length ≤ 1000) (h2 : d2.length ≤ 1000) (h3 : d3.length ≤ 1000) (h4 : d4.length ≤ 1000)
    (hb : ∀ (n : Nat) (p : Addr) (d : List D) (O' : Own), d.length ≤ 1000 → O'[n]? = some (p, oLst d) → SS G C body ((Γ.set j none).set j (some (dP p))) O' (kk.to fun _ : Nat => SD.of (Γ.set j none) (O'.set n (p, oLst (h d)))) (.nx 0))
    (hr : SS G C ss (Γ.set j none) ((a4, oLst (h d4)) :: (a3, oLst (h d3)) :: (a2, oLst (h d2)) :: (a1, oLst (h d1)) :: O) kk oo) (hs : ∀ env x, foldedSetIterable it env x = pure x) : SS G C (.For (.Name x p1) it body [] pos :: ss) Γ ((a4, oLst d4) :: (a3, oLst d3) :: (a2, oLst d2) :: (a1, oLst d1) :: O) kk oo := by
  have key := ss_fold (G := G) (C := C) (k := kk) (ss := ss) (pos := pos) (body := body) (tg := .Name x p1) (df := dP) (xs := [a1, a2, a3, a4]) (f := fun (s : Nat) _ => s + 1) (s0 := 0) (g := fun _ => ()) (fun _ : Unit => oo) (fun _ => Γ.set j none) (fun _ a => (Γ.set j none).set j (some (dP a)))
    (fun s => (a4, oLst (if 3 < s then h d4 else d4)) :: (a3, oLst (if 2 < s then h d3 else d3)) :: (a2, oLst (if 1 < s then h d2 else d2)) :: (a1, oLst (if 0 < s then h d1 else d1)) :: O) (ei_list hi) (frle_none j) rfl (fun _ => trivial) (fun _ _ => tj_name l) ?_ ?_ hs
  · exact key
  · intro s a pre post e es
    match pre, e with
    | [], e =>
      simp only [List.nil_append, List.cons.injEq] at e
      obtain ⟨rfl, _⟩ := e
      rw [List.foldl_nil] at es
      subst es
      exact ss_same rfl (hb 3 a1 d1 _ h1 rfl)
    | [_], e =>
      simp only [List.cons_append, List.nil_append, List.cons.injEq] at e
      obtain ⟨_, rfl, _⟩ := e
      have es' : s = 1 := es
      subst es'
      exact ss_same rfl (hb 2 a2 d2 _ h2 rfl)
    | [_, _], e =>
      simp only [List.cons_append, List.nil_append, List.cons.injEq] at e
      obtain ⟨_, _, rfl, _⟩ := e
      have es' : s = 2 := es
      subst es'
      exact ss_same rfl (hb 1 a3 d3 _ h3 rfl)
    | [_, _, _], e =>
      simp only [List.cons_append, List.nil_append, List.cons.injEq] at e
      obtain ⟨_, _, _, rfl, _⟩ := e
      have es' : s = 3 := es
      subst es'
      exact ss_same rfl (hb 0 a4 d4 _ h4 rfl)
    | _ :: _ :: _ :: _ :: r, e =>
      have := congrArg List.length e
      simp only [List.length_cons, List.length_append, List.length_nil] at this
      omega
  · intro s es
    have es' : s = 4 := es
    subst es'
    exact hr
theorem ss_clrB (hk : O[n]? = some (p, oLst ds)) (ha : E G C a Γ O (dP p)) (hb : ∀ env, attributeBase a "clear" env (eval a env) = eval a env) (hl : (p1.endLine == p2.line) = true) (le : FrLe Γ Γ') : SS G C [.Expr (.Call (.Attribute a "clear" p1) [] [] p2) pos] Γ O (kk.to fun _ : Nat => SD.of Γ' (O.set n (p, oLst []))) (.nx 0) :=
  ss_clrG hk ha hb hl (ss_end (hold_end le))
theorem ss_revB {b : Expr} (hd : ds.length ≤ 1000) (hk : O[n]? = some (p, oLst ds)) (ha : ∀ O', E G C a Γ O' (dP p)) (ha2 : ∀ O', E G C b Γ O' (dP p)) (hn : ∀ O', E G C e Γ O' dN) (hb : ∀ env, attributeBase a "reverse" env (eval a env) = eval a env) (hb2 : ∀ env, attributeBase b "append" env (eval b env) = eval b env) (hl : (p1.endLine == p2.line) = true) (hl2 : (p3.endLine == p4.line) = true) (hs : ∀ env, starEach [e] env = (false, eval e env) :: starEach [] env) (le : FrLe Γ Γ') : SS G C [.Expr (.Call (.Attribute a "reverse" p1) [] [] p2) pos, .Expr (.Call (.Attribute b "append" p3) [e] [] p4) p5] Γ O (kk.to fun _ : Nat => SD.of Γ' (O.set n (p, oLst (ds.reverse ++ [dN])))) (.nx 0) := by
  have hlt : n < O.length := (List.getElem?_eq_some_iff.mp hk).1
  refine ss_rev (xs := ds) (f := fun d => d) (g := fun _ => ()) (fun _ : Unit => Out.nx 0) (n := n) (p := p) (by rw [List.map_id']; exact hk) (ha O) hb hl fun ys hy => ?_
  subst hy
  rw [List.map_id']
  refine ss_app (xs := ds.reverse) (y := dN) (f := fun d => d) (g := fun _ => ()) (fun _ : Unit => Out.nx 0) (n := n) (p := p) (by rw [List.map_id', List.getElem?_set_self hlt]) (ha2 _) (hn _) (by rw [List.length_reverse]; omega) hb2 hl2 hs fun ys hy => ?_
  subst hy
  rw [List.map_id', List.set_set]
  exact ss_end (hold_end le)
theorem e_insBor [Calm C] {S : SpecD} {ns : List Str} {d1 d2 d3 d4 : List D} {e0 : Expr} (cal : CalI G k x S) (hk : k + 1 ≤ C.k) (g : Glo C x)
    (hS : ∀ p, S (dP p :: ds') [(p, oIns G x [] [])] (RK.unitS fun O' => ∃ q1 q2 q3 q4 : Addr, O' = (p, oIns G x ns [dP q1, dP q2, dP q3, dP q4]) :: (q1, oLst d1) :: (q2, oLst d2) :: (q3, oLst d3) :: (q4, oLst d4) :: []))
    (nt : NoTups O) (t1 : ∀ d ∈ d1, Tupy d) (t2 : ∀ d ∈ d2, Tupy d) (t3 : ∀ d ∈ d3, Tupy d) (t4 : ∀ d ∈ d4, Tupy d)
    (ha : A G C (e0 :: es) Γ O ds) (cv : Cv O ds ds') (hs : ∀ env, starEach (e0 :: es) env = (false, eval e0 env) :: starEach es env) : E G C (.Call (.Name x p1) (e0 :: es) [] pos) Γ O (dIns G x ns [dLst G.K d1, dLst G.K d2, dLst G.K d3, dLst G.K d4]) := .mk fun X c F σ H hh Q q => by
  obtain ⟨Cl, u, fd, ps, hC, hm, Fn, bi⟩ := cal.ex
  have Fn' : FnOk X.prog X.w X.K X.mg X.base (CX X.prog X.w) k u fd ps (spD S) := by rw [c.p, c.w, c.K, c.mg, c.base]; exact Fn
  refine we_of (pe_make (dvs := []) (E := E0) (by rw [c.K]; exact hm) Fn' (c.room.mono hk) (c.gl g) (by rw [c.mg]; exact hC.mg) (by rw [c.K]; exact bi) .nil passL pa_can g.2.1 (hs X.env) ?_) (ha.run X c F σ H hh _ fun F1 H1 vs e1 h1 dd1 => ?_)
  · have st := ha.bt pos X.env
    rw [hs] at st
    unfold backTo at st ⊢
    rw [List.map_cons, List.any_cons] at st
    exact (Bool.or_eq_false_iff.mp st).2
  · intro p dx hp hdx hne
    rw [List.append_nil]
    obtain ⟨h2, e2⟩ := (HoldO.all H1).laid (o := .own p) hdx
    have hp2 : upd H1 dx (.own p) p = none := by rw [upd_ne (Ne.symm hne)]; exact hp
    have h3 := h2.own (od := oIns G x [] []) hp2 ⟨Cl, dx, [], rfl, hC, rfl, trivial⟩
    refine ⟨_, _, _, _, hS p, h3, ⟨rfl, AllD.mono e2 (cv.to F1 H1 vs h1.ho dd1)⟩, fun v H' hv => ?_, fun _ _ _ z => z⟩
    obtain ⟨hv, F2, O', ⟨q1, q2, q3, q4, rfl⟩, e3, h4⟩ := hv
    refine ⟨hv, ?_⟩
    have e23 : Gw H1 F2 := e2.trans e3
    obtain ⟨F3, n3, a3, g3⟩ : ∃ F3 : Hp, (∀ q ∈ O, F3 q.1 = none) ∧ (∀ a, (∀ q ∈ O, q.1 ≠ a) → F3 a = F2 a) ∧ Gw F3 F2 := by
      refine ⟨fun a => if a ∈ O.map (·.1) then none else F2 a, fun q hq => if_pos (List.mem_map_of_mem hq), fun a ha => if_neg fun z => ?_, fun a o ho => ?_⟩
      · obtain ⟨q, hq, e⟩ := List.mem_map.mp z
        exact ha q hq e
      · have ho : (if a ∈ O.map (·.1) then none else F2 a) = some o := ho
        by_cases z : a ∈ O.map (·.1)
        · rw [show (if a ∈ O.map (·.1) then none else F2 a) = none from if_pos z] at ho
          cases ho
        · rw [show (if a ∈ O.map (·.1) then none else F2 a) = F2 a from if_neg z] at ho
          exact ho
    have g13 : Gw F1 F3 := fun a o ho => by
      rw [a3 a fun q hq z => by
        have := (h1.ho.ow q hq).1
        rw [z, ho] at this
        cases this]
      exact e23 a o (h1.ho.ex a o ho)
    have hH : Gw H1 H' := e23.trans h4.ex
    have hr : ∀ a vs, Rd F2 a (.tup vs) → Rd F3 a (.tup vs) := fun a vs hr => by
      have hne : ∀ q ∈ O, q.1 ≠ a := fun q hq z => by
        obtain ⟨_, o, h5, h6⟩ := h1.ho.ow q hq
        have h7 := e23 _ _ h5
        rw [z] at h7
        obtain ⟨w1, w2⟩ := nt q hq F1 vs
        rcases hr with hr | ⟨o2, hr⟩
        · rw [hr] at h7
          cases h7
          exact w1 h6
        · rw [hr] at h7
          cases h7
          exact w2 _ h6
      rcases hr with hr | ⟨o2, hr⟩
      · exact .inl ((a3 a hne).trans hr)
      · exact .inr ⟨o2, (a3 a hne).trans hr⟩
    have lo : ∀ {dl : List D}, (∀ d ∈ dl, Tupy d) → ∀ o, (oLst dl).ok F2 o → (oLst dl).ok F3 o := fun ht o ⟨us, hu1, hu2⟩ => ⟨us, hu1, ty_all ht F2 F3 us hr hu2⟩
    have out : ∀ (a : Addr), F2 a = none → ∀ q ∈ O, q.1 ≠ a := fun a hn q hq z => by
      obtain ⟨_, o, h5, _⟩ := h1.ho.ow q hq
      have := e23 _ _ h5
      rw [z, hn] at this
      cases this
    have h5 : HoldO F3 ((p, oIns G x ns [dP q1, dP q2, dP q3, dP q4]) :: (q1, oLst d1) :: (q2, oLst d2) :: (q3, oLst d3) :: (q4, oLst d4) :: O) H' := by
      refine ⟨g3.trans h4.ex, ?_, fun w hw => ?_⟩
      · have n4 := h4.nd
        have no := h1.ho.nd
        rw [show ((p, oIns G x ns [dP q1, dP q2, dP q3, dP q4]) :: (q1, oLst d1) :: (q2, oLst d2) :: (q3, oLst d3) :: (q4, oLst d4) :: O) = ((p, oIns G x ns [dP q1, dP q2, dP q3, dP q4]) :: (q1, oLst d1) :: (q2, oLst d2) :: (q3, oLst d3) :: (q4, oLst d4) :: []) ++ O from rfl, List.map_append]
        refine List.nodup_append.mpr ⟨n4, no, fun a ha b hb z => ?_⟩
        obtain ⟨w, hw, rfl⟩ := List.mem_map.mp ha
        obtain ⟨y, hy, rfl⟩ := List.mem_map.mp hb
        exact out w.1 (h4.ow w hw).1 y hy z.symm
      · have mem : ∀ {w : Addr × OD}, w ∈ ((p, oIns G x ns [dP q1, dP q2, dP q3, dP q4]) :: (q1, oLst d1) :: (q2, oLst d2) :: (q3, oLst d3) :: (q4, oLst d4) :: []) → (∀ o, w.2.ok F2 o → w.2.ok F3 o) → F3 w.1 = none ∧ ∃ o, H' w.1 = some o ∧ w.2.ok F3 o := fun {w} hw ho => by
          obtain ⟨f1, o, f2, f3⟩ := h4.ow w hw
          exact ⟨by rw [a3 w.1 (out w.1 f1)]; exact f1, o, f2, ho o f3⟩
        rw [show ((p, oIns G x ns [dP q1, dP q2, dP q3, dP q4]) :: (q1, oLst d1) :: (q2, oLst d2) :: (q3, oLst d3) :: (q4, oLst d4) :: O) = ((p, oIns G x ns [dP q1, dP q2, dP q3, dP q4]) :: (q1, oLst d1) :: (q2, oLst d2) :: (q3, oLst d3) :: (q4, oLst d4) :: []) ++ O from rfl] at hw
        rcases List.mem_append.mp hw with hw | hw
        · refine mem hw ?_
          simp only [List.mem_cons, List.not_mem_nil, or_false] at hw
          rcases hw with rfl | rfl | rfl | rfl | rfl
          · intro o ⟨C2, dx2, us, f1, f2, f3, f4⟩
            exact ⟨C2, dx2, us, f1, f2, f3, ty_all (ty_cons ty_V (ty_cons ty_V (ty_cons ty_V (ty_cons ty_V ty_nil)))) F2 F3 us hr f4⟩
          · exact lo t1
          · exact lo t2
          · exact lo t3
          · exact lo t4
        · obtain ⟨_, o, f1, f2⟩ := h1.ho.ow w hw
          exact ⟨n3 w hw, o, hH _ _ f1, w.2.mono g13 f2⟩
    obtain ⟨F4, c4, h6, b1⟩ := freeze_lstAt (G := G) (n := 1) h5 rfl
    obtain ⟨F5, c5, h7, b2⟩ := freeze_lstAt (G := G) (n := 1) (p := q2) (ds := d2) h6 rfl
    obtain ⟨F6, c6, h8, b3⟩ := freeze_lstAt (G := G) (n := 1) (p := q3) (ds := d3) h7 rfl
    obtain ⟨F7, c7, h9, b4⟩ := freeze_lstAt (G := G) (n := 1) (p := q4) (ds := d4) h8 rfl
    obtain ⟨ob, hob, ⟨C2, dx2, us, rfl, hC2, hl, hus⟩, c8, h10⟩ := HoldO.freeze (O := O) (p := p) (od := oIns G x ns [dP q1, dP q2, dP q3, dP q4]) h9
    match us, hus with
    | [v1, v2, v3, v4], hus =>
      have w1 : v1 = .ref q1 := hus.1
      have w2 : v2 = .ref q2 := hus.2.1
      have w3 : v3 = .ref q3 := hus.2.2.1
      have w4 : v4 = .ref q4 := hus.2.2.2.1
      subst w1 w2 w3 w4
      refine q _ H' (.ref p) (e1.trans (g13.trans (c4.trans (c5.trans (c6.trans (c7.trans c8)))))) ⟨h1.fr.mono (g13.trans (c4.trans (c5.trans (c6.trans (c7.trans c8))))), h10⟩ ⟨p, C2, dx2, _, rfl, hC2, upd_same, hl, ?_⟩
      exact ⟨(dLst G.K d1).mono (c5.trans (c6.trans (c7.trans c8))) b1, (dLst G.K d2).mono (c6.trans (c7.trans c8)) b2, (dLst G.K d3).mono (c7.trans c8) b3, (dLst G.K d4).mono c8 b4, trivial⟩
end
end Kn
namespace Kn
open PySem PySem.Spec L2
def top (i : Nat) : Stmt := PySem.Challenge.pw_knewby_k02_books_told.main.body.getD i (.Pass ⟨0, 0, 0, 0⟩)
def K_KEPT_WORDS : List Str := ["person", "talk", "saw", "knew", "heard", "told", "not", "nobody", "never", "by", "from", "to"]
def K_LETTERS : Str := "abcdefghijklmnopqrstuvwxyz"
end Kn
namespace Kn
open PySem PySem.Spec L2
def hdFa0 : List He.Fa := [.glo "_law_names", .glo "_law_hour", .glo "_law_tale", .glo "_law_talk", .glo "_law_saying", .glo "_law_book", .glo "is_name", .glo "are_persons", .glo "is_tuple_of", .glo "is_whole", .glo "is_hour", .glo "is_tale", .glo "is_sight", .glo "are_all", .glo "are_two", .glo "is_talk", .glo "is_saying", .glo "_law_told", .glo "_law_alike", .glo "law", .glo "Book", .cls "Book", .meth "Book" "persons", .meth "Book" "sights", .meth "Book" "talks", .meth "Book" "sayings", .mkr "Book", .noat "Book" "claims", .noat "Book" "crew", .noat "Book" "meetings"]
def hdFa1 : List He.Fa := [.noat "Book" "views", .free "bool", .free "enumerate", .free "int", .free "isinstance", .free "len", .free "list", .free "max", .free "min", .free "range", .free "set", .free "str", .free "tuple", .free "zip", .glo "KEPT_WORDS", .int "LAST_HOUR" 1000000000000000000, .str "LETTERS" K_LETTERS, .int "LONGEST" 12, .int "MOST_PERSONS" 24, .int "MOST_SAYINGS" 60, .int "MOST_SIGHTS" 24, .int "MOST_TALKS" 120, .int "MOST_WORDS" 6]
def hdFa : List He.Fa := hdFa0 ++ hdFa1
def hdFn0 : List He.DefD := [⟨("_law_names", none), "_law_names", "_law_names", defArgs (top 28), defBody (top 28), defScope (top 28), [], []⟩, ⟨("_law_hour", none), "_law_hour", "_law_hour", defArgs (top 29), defBody (top 29), defScope (top 29), [], []⟩, ⟨("_law_tale", none), "_law_tale", "_law_tale", defArgs (top 30), defBody (top 30), defScope (top 30), [], []⟩, ⟨("_law_talk", none), "_law_talk", "_law_talk", defArgs (top 31), defBody (top 31), defScope (top 31), [], []⟩, ⟨("_law_saying", none), "_law_saying", "_law_saying", defArgs (top 32), defBody (top 32), defScope (top 32), [], []⟩, ⟨("_law_book", none), "_law_book", "_law_book", defArgs (top 33), defBody (top 33), defScope (top 33), [], []⟩, ⟨("is_name", none), "is_name", "is_name", defArgs (top 11), defBody (top 11), defScope (top 11), [], []⟩, ⟨("are_persons", none), "are_persons", "are_persons", defArgs (top 19), defBody (top 19), defScope (top 19), [], []⟩, ⟨("is_tuple_of", none), "is_tuple_of", "is_tuple_of", defArgs (top 18), defBody (top 18), defScope (top 18), [], []⟩, ⟨("is_whole", none), "is_whole", "is_whole", defArgs (top 9), defBody (top 9), defScope (top 9), [], []⟩, ⟨("is_hour", none), "is_hour", "is_hour", defArgs (top 10), defBody (top 10), defScope (top 10), [], []⟩, ⟨("is_tale", none), "is_tale", "is_tale", defArgs (top 20), defBody (top 20), defScope (top 20), [], []⟩, ⟨("is_sight", none), "is_sight", "is_sight", defArgs (top 21), defBody (top 21), defScope (top 21), [], []⟩, ⟨("are_all", none), "are_all", "are_all", defArgs (top 25), defBody (top 25), defScope (top 25), [], []⟩, ⟨("are_two", none), "are_two", "are_two", defArgs (top 22), defBody (top 22), defScope (top 22), [], []⟩, ⟨("is_talk", none), "is_talk", "is_talk", defArgs (top 23), defBody (top 23), defScope (top 23), [], []⟩, ⟨("is_saying", none), "is_saying", "is_saying", defArgs (top 24), defBody (top 24), defScope (top 24), [], []⟩, ⟨("_law_told", none), "_law_told", "_law_told", defArgs (top 35), defBody (top 35), defScope (top 35), [], []⟩, ⟨("_law_alike", none), "_law_alike", "_law_alike", defArgs (top 34), defBody (top 34), defScope (top 34), [], []⟩, ⟨("law", none), "law", "law", defArgs (top 36), defBody (top 36), defScope (top 36), [], []⟩]
def hdFn1 : List He.DefD := [⟨("Book", some "persons"), "persons", "Book.persons", defArgs (inClass (top 26) 1), defBody (inClass (top 26) 1), defScope (inClass (top 26) 1), [], []⟩, ⟨("Book", some "sights"), "sights", "Book.sights", defArgs (inClass (top 26) 2), defBody (inClass (top 26) 2), defScope (inClass (top 26) 2), [], []⟩, ⟨("Book", some "talks"), "talks", "Book.talks", defArgs (inClass (top 26) 3), defBody (inClass (top 26) 3), defScope (inClass (top 26) 3), [], []⟩, ⟨("Book", some "sayings"), "sayings", "Book.sayings", defArgs (inClass (top 26) 4), defBody (inClass (top 26) 4), defScope (inClass (top 26) 4), [], []⟩, ⟨("Book", some "__init__"), "__init__", "Book.__init__", defArgs (inClass (top 26) 0), defBody (inClass (top 26) 0), defScope (inClass (top 26) 0), [], []⟩]
def hdFn : List He.DefD := hdFn0 ++ hdFn1
def hdEx (K : PySem.W.Frag) : Bool := He.tupB K "KEPT_WORDS" (K_KEPT_WORDS.map He.Dv.str)
abbrev HdR : PySem.W.OpenRow := PySem.W.OpenLaw.row PySem.Challenge.rw_knewby_k02_books_told
abbrev hdHk : PySem.W.Hook := hookM 5 hdFa hdFn hdEx
def hdOb (s : PySem.W.SharedT) : AlM := obsM 5 hdFa hdFn hdEx (HandSHeadRun.getT s)
theorem hdOb_eq (s : PySem.W.SharedT) : hdOb s = hdHk.obs s.abs := obsM_eq (HandSHeadRun.getT_eq s)
def hdL0 : List Str := ["_wall", "KnewError", "NoBook", "LETTERS", "KEPT_WORDS", "LONGEST", "LAST_HOUR", "is_whole", "is_hour", "is_name", "MOST_PERSONS", "MOST_SIGHTS", "MOST_TALKS", "MOST_SAYINGS", "MOST_WORDS", "is_tuple_of", "are_persons", "is_tale", "is_sight", "are_two", "is_talk", "is_saying", "are_all", "Book", "_law_names", "_law_hour", "_law_tale", "_law_talk", "_law_saying", "_law_book"]
def hdL1 : List Str := ["_law_alike", "_law_told"]
def hdLoose : List Str := hdL0 ++ hdL1
theorem hd_run (w : World) : HandSHeadRun.RunEq HdR (PySem.W.view HdR.prog [36]) hdHk hdOb 8000 hdLoose w := by
  intro os
  kernel_rfl
end Kn
namespace Kn
open PySem PySem.Spec L2
def m_L_names (a_cell : Int) : (List Str) :=
  lt ("bcdfghijklmnpqrstuvwxz" : Str) fun letters_1 =>
  lt ((((a_cell % (1000000000000000 : Int)) + (7 : Int)) * (48271 : Int)) % (2147483647 : Int)) fun number_2 =>
  lt (number_2 % (11 : Int)) fun many_3 =>
  lt (Str.join ("" : Str) ((upto many_3).map fun e_4 => (signAt letters_1 (((number_2 / (11 : Int)) + (((5 : Int) * e_4) * e_4)) % (22 : Int))))) fun stem_7 =>
  lt ((number_2 / (276 : Int)) % (many_3 + (1 : Int))) fun at_8 =>
  lt (signAt letters_1 ((number_2 / (13 : Int)) % (22 : Int))) fun more_9 =>
  lt ([] : List Str) fun names_here_10 =>
  lt ((upto (12 : Int)).foldl (fun (s_11 : (List Str)) (x_12 : Int) =>
    lt (((cutS stem_7 none (some at_8)) ++ (signAt letters_1 (((number_2 / (7 : Int)) + ((3 : Int) * x_12)) % (22 : Int)))) ++ (cutS stem_7 (some at_8) none)) fun name_20 =>
    lt (s_11 ++ ([name_20, (name_20 ++ more_9)])) fun names_here_21 =>
    names_here_21) names_here_10) fun (s_11 : (List Str)) =>
  s_11
theorem empty_len : ("" : Str).length = 0 := by decide +kernel
theorem inR_bi {b : Bool} : inR 2 (bi b) := by cases b <;> (show _ ∧ _; decide)
theorem join_signs {α : Type} {z : Str} {f : α → Int} {l : List α} : (Str.join ("" : Str) (l.map fun e => signAt z (f e))).length ≤ l.length := by
  have h := join_len ("" : Str) (l.map fun e => signAt z (f e))
  rw [List.map_map] at h
  simp only [Function.comp_def, signAt_len, List.map_const', List.sum_replicate_nat, empty_len] at h
  omega
theorem names_len (n : Int) : (m_L_names n).length = 24 := by
  unfold m_L_names
  simp only [lt]
  refine (foldl_measE (m := fun s : List Str => s.length) (c := 2) (fun s x => ?_)).trans ?_
  · rw [List.length_append]; rfl
  · rw [upto_len]; rfl
theorem persons_pos {l : List Str} {a b m : Int} (hl : l.length = 24) (ha : 0 ≤ a ∧ a < 5) (hm : 1 ≤ m) : 1 ≤ (cut (cut l (some a) none) none (some (1 + b % m))).length := by
  have h1 := Int.emod_nonneg b (b := m) (by omega)
  unfold cut
  simp only [HT.sIx, List.length_take, List.length_drop, hl]
  rw [if_neg (by omega), if_neg (by omega)]
  omega
def m_L_hour (a_number : Int) : Int :=
  lt (a_number % (8 : Int)) fun kind_1 =>
  (if (decide (kind_1 = (6 : Int))) then
    ((1000000000000000000 : Int) - ((a_number / (8 : Int)) % (3 : Int)))
  else
  (if (decide (kind_1 = (7 : Int))) then
    ((a_number / (8 : Int)) % ((1000000000000000000 : Int) + (1 : Int)))
  else
  ((a_number / (8 : Int)) % (12 : Int))))
def m_L_tale (a_number : Int) (a_names_here : (List Str)) : (List Str) :=
  ((upto ((1 : Int) + (a_number % (6 : Int)))).map fun e_1 => (nth a_names_here ((a_number / (((3 : Int) * e_1) + (7 : Int))) % (24 : Int))))
def m_L_talk (a_number : Int) (a_persons : (List Str)) : (Int × Str × Str × Str) :=
  lt (a_number % (a_persons.length : Int)) fun one_1 =>
  lt (((one_1 + (1 : Int)) + ((a_number / (24 : Int)) % ((a_persons.length : Int) - (1 : Int)))) % (a_persons.length : Int)) fun other_2 =>
  ((m_L_hour (a_number / (600 : Int))), (nth a_persons one_1), (nth a_persons other_2), (nth ([("both" : Str), ("both" : Str), ("one" : Str)]) ((a_number / (200 : Int)) % (3 : Int))))
def m_L_saying (a_number : Int) (a_persons : (List Str)) : Sy :=
  lt (nth a_persons (a_number % (a_persons.length : Int))) fun person_1 =>
  lt ((a_number / (24 : Int)) % (5 : Int)) fun kind_2 =>
  lt (m_L_hour (a_number / (120 : Int))) fun hour_here_3 =>
  (if (decide (kind_2 = (0 : Int))) then
    (Sy.knew person_1 hour_here_3)
  else
  (if (decide (kind_2 = (1 : Int))) then
    (Sy.unheard person_1 (nth ([(some hour_here_3), (none : (Option Int))]) (bi (decide (((a_number / (7 : Int)) % (9 : Int)) = (1 : Int))))))
  else
  (if (decide (kind_2 = (2 : Int))) then
    lt (m_L_hour (a_number / (1000 : Int))) fun end_7 =>
    (Sy.silent person_1 (imin hour_here_3 end_7) (imax hour_here_3 end_7))
  else
  (if ((decide (kind_2 = (3 : Int))) && (decide ((1 : Int) < (a_persons.length : Int)))) then
    (Sy.barred person_1 (nth a_persons (((a_number + (1 : Int)) + ((a_number / (120 : Int)) % ((a_persons.length : Int) - (1 : Int)))) % (a_persons.length : Int))))
  else
  (Sy.unheard person_1 (some (hour_here_3 / (4 : Int))))))))
def m_L_book (a_script : (List Int)) (a_most : Int) : ((List Str) × (List (Str × Int × (List Str))) × (List (Int × Str × Str × Str)) × (List Sy)) :=
  lt (a_script ++ ([(0 : Int), (0 : Int), (0 : Int)])) fun cells_1 =>
  lt (m_L_names (nth cells_1 (0 : Int))) fun names_here_2 =>
  lt (cut (cut names_here_2 (some ((nth cells_1 (2 : Int)) % (5 : Int))) none) none (some ((1 : Int) + ((nth cells_1 (1 : Int)) % a_most)))) fun persons_3 =>
  lt ((enumL (cut a_script (some (3 : Int)) (some (63 : Int)))).foldl (fun (s_10 : (List (Str × Int × (List Str))) × (List (Int × Str × Str × Str)) × (List Sy)) (x_11 : (Int × Int)) =>
    lt ((((x_11.2 % (10000000000000000000000000000000000000000 : Int)) + (((31 : Int) * x_11.1) * x_11.1)) * (48271 : Int)) % ((100000000000000000000000000000000000000000 : Int) + (7 : Int))) fun number_21 =>
    lt (number_21 % (8 : Int)) fun kind_22 =>
    (if ((decide (kind_22 < (2 : Int))) && (decide ((s_10.1.length : Int) < (24 : Int)))) then
      lt (nth persons_3 ((number_21 / (8 : Int)) % (persons_3.length : Int))) fun person_26 =>
      lt (s_10.1 ++ [(person_26, (m_L_hour (number_21 / (200 : Int))), (m_L_tale ((number_21 / (8 : Int)) % (1000000000 : Int)) names_here_2))]) fun sights_27 =>
      (sights_27, s_10.2.1, s_10.2.2)
    else
      (if ((decide (kind_22 < (6 : Int))) && (decide ((1 : Int) < (persons_3.length : Int)))) then
        lt (s_10.2.1 ++ [(m_L_talk (number_21 / (8 : Int)) persons_3)]) fun talks_31 =>
        (s_10.1, talks_31, s_10.2.2)
      else
        lt (s_10.2.2 ++ [(m_L_saying (number_21 / (8 : Int)) persons_3)]) fun sayings_32 =>
        (s_10.1, s_10.2.1, sayings_32)))) (([] : List (Str × Int × (List Str))), ([] : List (Int × Str × Str × Str)), ([] : List Sy))) fun (s_10 : (List (Str × Int × (List Str))) × (List (Int × Str × Str × Str)) × (List Sy)) =>
  (persons_3, s_10.1, s_10.2.1, s_10.2.2)
def m_P_is_name (a_thing : Va) : Bool :=
  (if ((!(isA "str" a_thing)) || ((!((decide ((1 : Int) ≤ (a_thing.asS.length : Int))) && (decide ((a_thing.asS.length : Int) ≤ (12 : Int))))) || (decide (a_thing.asS ∈ K_KEPT_WORDS)))) then
    false
  else
  lp (loopL (R := Bool) (fun (s_5 : Unit) (x_6 : Str) =>
    (if (!hasSign K_LETTERS x_6) then
      (Ret.rt false)
    else
      (Ret.nx ()))) (signs a_thing.asS) ()) fun (s_5 : Unit) =>
  true)
def m_P_are_persons (a_thing : (List Str)) : Bool :=
  (if ((!true) || (!((decide ((1 : Int) ≤ (a_thing.length : Int))) && (decide ((a_thing.length : Int) ≤ (24 : Int)))))) then
    false
  else
  lp (loopL (R := Bool) (fun (s_4 : Unit) (x_5 : Str) =>
    (if (!(m_P_is_name (Va.str x_5))) then
      (Ret.rt false)
    else
      (Ret.nx ()))) a_thing ()) fun (s_4 : Unit) =>
  (decide (((nubS a_thing).length : Int) = (a_thing.length : Int))))
def m_P_is_tuple_of (a_thing : Va) (a_many : Int) : Bool :=
  ((isA "tuple" a_thing) && (decide ((a_thing.asT.length : Int) = a_many)))
def m_P_is_whole (a_thing : Va) : Bool :=
  ((isA "int" a_thing) && (!(isA "bool" a_thing)))
theorem whole_isA {x : Va} (h : m_P_is_whole x = true) : isA "int" x = true ∧ isA "bool" x = false := ⟨andL h, notT (andR h)⟩
def m_P_is_hour (a_thing : Va) : Bool :=
  ((m_P_is_whole a_thing) && ((decide ((0 : Int) ≤ a_thing.asI)) && (decide (a_thing.asI ≤ (1000000000000000000 : Int)))))
def m_P_is_tale (a_thing : (List Str)) : Bool :=
  (if ((!true) || (!((decide ((1 : Int) ≤ (a_thing.length : Int))) && (decide ((a_thing.length : Int) ≤ (6 : Int)))))) then
    false
  else
  lp (loopL (R := Bool) (fun (s_4 : Unit) (x_5 : Str) =>
    (if (!(m_P_is_name (Va.str x_5))) then
      (Ret.rt false)
    else
      (Ret.nx ()))) a_thing ()) fun (s_4 : Unit) =>
  true)
def m_P_is_sight (a_thing : (Str × Int × (List Str))) (a_persons : (List Str)) : Bool :=
  (if (!(m_P_is_tuple_of ((fun x : (Str × Int × (List Str)) => Va.tup [Va.str x.1, Va.int x.2.1, (fun xs : (List Str) => Va.tup (xs.map Va.str)) x.2.2]) a_thing) (3 : Int))) then
    false
  else
  ((decide (a_thing.1 ∈ a_persons)) && ((m_P_is_hour (Va.int a_thing.2.1)) && (m_P_is_tale a_thing.2.2))))
def m_P_are_all_at_is_sight (a_thing : (List (Str × Int × (List Str)))) (a_most : Int) (a_persons : (List Str)) : Bool :=
  (if ((!true) || (decide (a_most < (a_thing.length : Int)))) then
    false
  else
  lp (loopL (R := Bool) (fun (s_4 : Unit) (x_5 : (Str × Int × (List Str))) =>
    (if (!(m_P_is_sight x_5 a_persons)) then
      (Ret.rt false)
    else
      (Ret.nx ()))) a_thing ()) fun (s_4 : Unit) =>
  true)
def m_P_are_two (a_one : Str) (a_other : Str) (a_persons : (List Str)) : Bool :=
  ((decide (a_one ∈ a_persons)) && ((decide (a_other ∈ a_persons)) && (!decide (a_one = a_other))))
def m_P_is_talk (a_thing : (Int × Str × Str × Str)) (a_persons : (List Str)) : Bool :=
  (if (!(m_P_is_tuple_of ((fun x : (Int × Str × Str × Str) => Va.tup [Va.int x.1, Va.str x.2.1, Va.str x.2.2.1, Va.str x.2.2.2]) a_thing) (4 : Int))) then
    false
  else
  ((m_P_is_hour (Va.int a_thing.1)) && ((m_P_are_two a_thing.2.1 a_thing.2.2.1 a_persons) && (decide (a_thing.2.2.2 ∈ [("both" : Str), ("one" : Str)])))))
def m_P_are_all_at_is_talk (a_thing : (List (Int × Str × Str × Str))) (a_most : Int) (a_persons : (List Str)) : Bool :=
  (if ((!true) || (decide (a_most < (a_thing.length : Int)))) then
    false
  else
  lp (loopL (R := Bool) (fun (s_4 : Unit) (x_5 : (Int × Str × Str × Str)) =>
    (if (!(m_P_is_talk x_5 a_persons)) then
      (Ret.rt false)
    else
      (Ret.nx ()))) a_thing ()) fun (s_4 : Unit) =>
  true)
def m_P_is_saying (a_thing : Sy) (a_persons : (List Str)) : Bool :=
  (if ((!true) || ((decide (a_thing.len < (3 : Int))) || (!decide (a_thing.who ∈ a_persons)))) then
    false
  else
  (if (decide (a_thing.kd = ("silent" : Str))) then
    ((decide (a_thing.len = (4 : Int))) && ((m_P_is_hour (Va.int a_thing.h1)) && ((m_P_is_hour (Va.int a_thing.h2)) && (decide (a_thing.h1 ≤ a_thing.h2)))))
  else
  (if (!decide (a_thing.len = (3 : Int))) then
    false
  else
  (if (decide (a_thing.kd = ("knew" : Str))) then
    (m_P_is_hour (Va.int a_thing.h1))
  else
  (if (decide (a_thing.kd = ("unheard" : Str))) then
    ((a_thing.ho.isNone) || (m_P_is_hour ((vaO Va.int) a_thing.ho)))
  else
  ((decide (a_thing.kd = ("barred" : Str))) && (m_P_are_two a_thing.who a_thing.other a_persons)))))))
def m_P_are_all_at_is_saying (a_thing : (List Sy)) (a_most : Int) (a_persons : (List Str)) : Bool :=
  (if ((!true) || (decide (a_most < (a_thing.length : Int)))) then
    false
  else
  lp (loopL (R := Bool) (fun (s_4 : Unit) (x_5 : Sy) =>
    (if (!(m_P_is_saying x_5 a_persons)) then
      (Ret.rt false)
    else
      (Ret.nx ()))) a_thing ()) fun (s_4 : Unit) =>
  true)
def goodBook (p : List Str) (s : List Sight) (t : List Talk) (y : List Sy) : Prop := m_P_are_persons p = true ∧ m_P_are_all_at_is_sight s 24 p = true ∧ m_P_are_all_at_is_talk t 120 p = true ∧ m_P_are_all_at_is_saying y 60 p = true
def lettersB : Str := "bcdfghijklmnpqrstuvwxz"
def plainS (t : Str) : Prop := ∀ c ∈ t.cps.toList, c ∈ lettersB.cps.toList
theorem letB_sign : ∀ c ∈ lettersB.cps.toList, (⟨#[c]⟩ : Str) ∈ signs K_LETTERS := by decide +kernel
theorem letB_kept : ∀ w ∈ K_KEPT_WORDS, ∃ c ∈ w.cps.toList, c ∉ lettersB.cps.toList := by decide +kernel
theorem letB_len : lettersB.cps.toList.length = 22 := by decide +kernel
theorem letB_nodup : lettersB.cps.toList.Nodup := by decide +kernel
theorem good_name {t : Str} (h1 : 1 ≤ t.length ∧ t.length ≤ 12) (h2 : plainS t) : m_P_is_name (Va.str t) = true := by
  have hk : t ∉ K_KEPT_WORDS := fun z => by
    obtain ⟨c, hc, hn⟩ := letB_kept t z
    exact hn (h2 c hc)
  have ha : (signs t).all (fun x => hasSign K_LETTERS x) = true := by
    rw [List.all_eq_true]
    intro s hs
    unfold signs at hs
    obtain ⟨c, hc, rfl⟩ := List.mem_map.mp hs
    exact decide_eq_true (letB_sign c (h2 c hc))
  unfold m_P_is_name
  have e1 : isA "str" (Va.str t) = true := rfl
  have e2 : (Va.str t).asS = t := rfl
  rw [e1, e2, loop_all (fun x => hasSign K_LETTERS x), ha]
  rw [decide_eq_true (show (1 : Int) ≤ (t.length : Int) by omega), decide_eq_true (show (t.length : Int) ≤ 12 by omega), decide_eq_false hk]
  rfl
structure NmP where
  stem : Str
  at_ : Int
  more : Str
  base : Int
def NmP.nm (p : NmP) (k : Int) : Str := ((cutS p.stem none (some p.at_)) ++ (signAt lettersB ((p.base + 3 * k) % 22))) ++ (cutS p.stem (some p.at_) none)
structure NmP.Ok (p : NmP) : Prop where
  len : p.stem.length ≤ 10
  pl : plainS p.stem
  pos : 0 ≤ p.at_
  ml : p.more.cps.toList.length = 1
  mp : plainS p.more
theorem sign_plain (i : Int) (h : 0 ≤ i ∧ i < 22) : plainS (signAt lettersB i) := by
  intro c hc
  rw [tl_sign, List.mem_singleton] at hc
  rw [hc]
  exact nth_mem (by show _ ≤ _ ∧ _ < _; rw [letB_len]; omega)
theorem NmP.tl {p : NmP} (o : p.Ok) (k : Int) : (p.nm k).cps.toList = p.stem.cps.toList.take p.at_.toNat ++ nth lettersB.cps.toList ((p.base + 3 * k) % 22) :: p.stem.cps.toList.drop p.at_.toNat := by
  unfold NmP.nm
  rw [tl_app, tl_app, tl_cutTo o.pos, tl_cutFrom o.pos, tl_sign, List.append_assoc]
  rfl
theorem NmP.len_nm {p : NmP} (o : p.Ok) (k : Int) : (p.nm k).cps.toList.length = p.stem.length + 1 := by
  rw [NmP.tl o, List.length_append, List.length_cons, List.length_take, List.length_drop, len_tl]
  omega
theorem NmP.plain {p : NmP} (o : p.Ok) (k : Int) : plainS (p.nm k) := by
  intro c hc
  rw [NmP.tl o] at hc
  rcases List.mem_append.mp hc with h | h
  · exact o.pl c (List.mem_of_mem_take h)
  · rcases List.mem_cons.mp h with h | h
    · rw [h]
      exact nth_mem (by show _ ≤ _ ∧ _ < _; rw [letB_len]; omega)
    · exact o.pl c (List.mem_of_mem_drop h)
theorem NmP.inj {p : NmP} (o : p.Ok) {i j : Int} (hi : 0 ≤ i) (hij : i < j) (hj : j < 12) : p.nm i ≠ p.nm j := by
  intro e
  have e2 := congrArg (fun s : Str => s.cps.toList) e
  simp only [NmP.tl o] at e2
  have e3 := List.append_cancel_left e2
  injection e3 with e4 _
  have := nth_inj letB_nodup (by rw [letB_len]; omega) (by rw [letB_len]; omega) e4
  omega
theorem names_form (n : Int) : ∃ p : NmP, p.Ok ∧ m_L_names n = (upto 12).flatMap fun k => [p.nm k, p.nm k ++ p.more] := by
  unfold m_L_names
  simp only [lt]
  generalize hn : (n % 1000000000000000 + 7) * 48271 % 2147483647 = m
  refine ⟨⟨Str.join ("" : Str) ((upto (m % 11)).map fun e_4 => signAt lettersB ((m / 11 + 5 * e_4 * e_4) % 22)), m / 276 % (m % 11 + 1), signAt lettersB (m / 13 % 22), m / 7⟩, ⟨?_, ?_, ?_, rfl, ?_⟩, ?_⟩
  · refine Nat.le_trans join_signs ?_
    rw [upto_len]
    omega
  · intro c hc
    rw [tl_join0] at hc
    obtain ⟨s, hs, hc⟩ := List.mem_flatMap.mp hc
    obtain ⟨i, _, rfl⟩ := List.mem_map.mp hs
    exact sign_plain _ (by omega) c hc
  · have h := Int.emod_nonneg m (b := 11) (by omega)
    exact Int.emod_nonneg _ (by omega)
  · exact sign_plain _ (by omega)
  · rw [foldl_app]
    rfl
theorem names_good (n : Int) : (m_L_names n).Nodup ∧ ∀ t ∈ m_L_names n, m_P_is_name (Va.str t) = true := by
  obtain ⟨p, o, e⟩ := names_form n
  rw [e]
  have lm : ∀ k, (p.nm k ++ p.more).cps.toList.length = p.stem.length + 2 := fun k => by
    rw [tl_app, List.length_append, NmP.len_nm o, o.ml]
  constructor
  · refine nodup_flat (fun k _ => ?_) (upto_pair fun i j h1 h2 h3 => ?_)
    · refine List.nodup_cons.mpr ⟨fun h => ?_, List.nodup_cons.mpr ⟨fun h => (nomatch h), List.nodup_nil⟩⟩
      rw [List.mem_singleton] at h
      have := congrArg (fun s : Str => s.cps.toList.length) h
      simp only [lm, NmP.len_nm o] at this
      omega
    · have hne := NmP.inj o h1 h2 h3
      have ln : ∀ a b, p.nm a ≠ p.nm b ++ p.more := fun a b h => by
        have := congrArg (fun s : Str => s.cps.toList.length) h
        simp only [lm, NmP.len_nm o] at this
        omega
      have lmm : p.nm i ++ p.more ≠ p.nm j ++ p.more := fun h => by
        have := congrArg (fun s : Str => s.cps.toList) h
        simp only [tl_app] at this
        exact hne (str_ext (List.append_cancel_right this))
      intro a ha b hb
      rcases List.mem_cons.mp ha with rfl | ha
      · rcases List.mem_cons.mp hb with rfl | hb
        · exact hne
        · rw [List.mem_singleton] at hb
          subst hb
          exact ln i j
      · rw [List.mem_singleton] at ha
        subst ha
        rcases List.mem_cons.mp hb with rfl | hb
        · exact fun h => ln j i h.symm
        · rw [List.mem_singleton] at hb
          subst hb
          exact lmm
  · intro t ht
    obtain ⟨k, _, ht⟩ := List.mem_flatMap.mp ht
    rcases List.mem_cons.mp ht with rfl | ht
    · refine good_name ?_ (NmP.plain o k)
      rw [len_tl, NmP.len_nm o]
      have := o.len
      omega
    · rw [List.mem_singleton] at ht
      subst ht
      refine good_name ?_ ?_
      · rw [len_tl, lm]
        have := o.len
        omega
      · intro c hc
        rw [tl_app] at hc
        rcases List.mem_append.mp hc with h | h
        · exact NmP.plain o k c h
        · exact o.mp c h
theorem good_hour (n : Int) : m_P_is_hour (Va.int (m_L_hour n)) = true := by
  have h : 0 ≤ m_L_hour n ∧ m_L_hour n ≤ 1000000000000000000 := by
    unfold m_L_hour
    simp only [lt]
    split
    · omega
    · split
      · omega
      · omega
  unfold m_P_is_hour m_P_is_whole
  have e : (Va.int (m_L_hour n)).asI = m_L_hour n := rfl
  have e1 : isA "int" (Va.int (m_L_hour n)) = true := rfl
  have e2 : isA "bool" (Va.int (m_L_hour n)) = false := rfl
  rw [e, e1, e2, decide_eq_true h.1, decide_eq_true h.2]
  rfl
theorem hour_iff (i : Int) : m_P_is_hour (Va.int i) = (decide (0 ≤ i) && decide (i ≤ 1000000000000000000)) := by
  unfold m_P_is_hour m_P_is_whole
  have e : (Va.int i).asI = i := rfl
  have e1 : isA "int" (Va.int i) = true := rfl
  have e2 : isA "bool" (Va.int i) = false := rfl
  rw [e, e1, e2]
  rfl
structure NamesOk (l : List Str) : Prop where
  nd : l.Nodup
  ok : ∀ t ∈ l, m_P_is_name (Va.str t) = true
theorem good_persons {l : List Str} (h : NamesOk l) (h1 : 1 ≤ l.length ∧ l.length ≤ 24) : m_P_are_persons l = true := by
  have ha : l.all (fun x => m_P_is_name (Va.str x)) = true := List.all_eq_true.mpr h.ok
  unfold m_P_are_persons
  rw [loop_all (fun x => m_P_is_name (Va.str x)), ha, decide_eq_true (show (1 : Int) ≤ (l.length : Int) by omega), decide_eq_true (show (l.length : Int) ≤ 24 by omega), nub_nodup h.nd, decide_eq_true rfl]
  rfl
theorem tup_of3 (s : Sight) : m_P_is_tuple_of ((fun x : Sight => Va.tup [Va.str x.1, Va.int x.2.1, (fun xs => Va.tup (List.map Va.str xs)) x.2.2]) s) 3 = true := rfl
theorem tup_of4 (s : Talk) : m_P_is_tuple_of ((fun x : Talk => Va.tup [Va.int x.1, Va.str x.2.1, Va.str x.2.2.1, Va.str x.2.2.2]) s) 4 = true := rfl
theorem good_tale {l : List Str} (n : Int) (h : NamesOk l) (hl : l.length = 24) : m_P_is_tale (m_L_tale n l) = true := by
  have hlen : (m_L_tale n l).length = (1 + n % 6).toNat := by
    unfold m_L_tale
    rw [List.length_map, upto_len]
  have ha : (m_L_tale n l).all (fun x => m_P_is_name (Va.str x)) = true := by
    rw [List.all_eq_true]
    intro t ht
    unfold m_L_tale at ht
    obtain ⟨i, _, rfl⟩ := List.mem_map.mp ht
    exact h.ok _ (nth_mem (by show _ ≤ _ ∧ _ < _; rw [hl]; omega))
  unfold m_P_is_tale
  rw [loop_all (fun x => m_P_is_name (Va.str x)), ha, decide_eq_true (show (1 : Int) ≤ ((m_L_tale n l).length : Int) by rw [hlen]; omega), decide_eq_true (show ((m_L_tale n l).length : Int) ≤ 6 by rw [hlen]; omega)]
  rfl
theorem good_sight {p l : List Str} (hl : NamesOk l) (h24 : l.length = 24) {w : Str} (hw : w ∈ p) (a b : Int) : m_P_is_sight (w, m_L_hour a, m_L_tale b l) p = true := by
  unfold m_P_is_sight
  rw [tup_of3, good_hour, good_tale b hl h24, decide_eq_true hw]
  rfl
theorem two_of {p : List Str} (nd : p.Nodup) {n r : Int} (hp : 1 < p.length) (hr : 0 ≤ r ∧ r < (p.length : Int) - 1) : m_P_are_two (nth p (n % (p.length : Int))) (nth p ((n % (p.length : Int) + 1 + r) % (p.length : Int))) p = true := by
  have h1 : inR p.length (n % (p.length : Int)) := inR_mod (by omega)
  have h2 : inR p.length ((n % (p.length : Int) + 1 + r) % (p.length : Int)) := inR_mod (by omega)
  have hne : nth p (n % (p.length : Int)) ≠ nth p ((n % (p.length : Int) + 1 + r) % (p.length : Int)) := fun e => by
    have := nth_inj nd ⟨Int.emod_nonneg _ (by omega), Int.emod_lt_of_pos _ (by omega)⟩ ⟨Int.emod_nonneg _ (by omega), Int.emod_lt_of_pos _ (by omega)⟩ e
    exact mod_step hr (by omega) this.symm
  unfold m_P_are_two
  rw [decide_eq_true (nth_mem h1), decide_eq_true (nth_mem h2), decide_eq_false hne]
  rfl
theorem talk_true {p : List Str} {h : Int} {a b w : Str} (hh : m_P_is_hour (Va.int h) = true) (h2 : m_P_are_two a b p = true) (hw : w ∈ [("both" : Str), ("one" : Str)]) : m_P_is_talk (h, a, b, w) p = true := by
  unfold m_P_is_talk
  rw [tup_of4, hh, h2, decide_eq_true hw]
  rfl
theorem good_talk {p : List Str} (nd : p.Nodup) (hp : 1 < p.length) (n : Int) : m_P_is_talk (m_L_talk n p) p = true := by
  have hw : nth ([("both" : Str), ("both" : Str), ("one" : Str)]) (n / 200 % 3) ∈ [("both" : Str), ("one" : Str)] := by
    have h := nth_mem (xs := [("both" : Str), ("both" : Str), ("one" : Str)]) (i := n / 200 % 3) (by show -3 ≤ _ ∧ _ < 3; omega)
    simp only [List.mem_cons, List.not_mem_nil, or_false] at h ⊢
    rcases h with h | h | h
    · exact .inl h
    · exact .inl h
    · exact .inr h
  exact talk_true (good_hour _) (two_of nd hp ⟨Int.emod_nonneg _ (by omega), Int.emod_lt_of_pos _ (by omega)⟩) hw
theorem n_ks : ¬ ("knew" : Str) = ("silent" : Str) := by decide +kernel
theorem n_us : ¬ ("unheard" : Str) = ("silent" : Str) := by decide +kernel
theorem n_uk : ¬ ("unheard" : Str) = ("knew" : Str) := by decide +kernel
theorem n_bs : ¬ ("barred" : Str) = ("silent" : Str) := by decide +kernel
theorem n_bk : ¬ ("barred" : Str) = ("knew" : Str) := by decide +kernel
theorem n_bu : ¬ ("barred" : Str) = ("unheard" : Str) := by decide +kernel
theorem say_knew {p : List Str} {w : Str} {h : Int} (hw : w ∈ p) (hh : m_P_is_hour (Va.int h) = true) : m_P_is_saying (.knew w h) p = true := by
  unfold m_P_is_saying
  simp [Sy.len, Sy.who, Sy.kd, Sy.h1, n_ks, hh, hw]
theorem say_unheard {p : List Str} {w : Str} {h : Option Int} (hw : w ∈ p) (hh : ∀ i, h = some i → m_P_is_hour (Va.int i) = true) : m_P_is_saying (.unheard w h) p = true := by
  unfold m_P_is_saying
  cases h with
  | none => simp [Sy.len, Sy.who, Sy.kd, Sy.ho, n_us, n_uk, hw]
  | some i => simp [Sy.len, Sy.who, Sy.kd, Sy.ho, n_us, n_uk, hw, vaO, hh i rfl]
theorem say_silent {p : List Str} {w : Str} {a b : Int} (hw : w ∈ p) (ha : m_P_is_hour (Va.int a) = true) (hb : m_P_is_hour (Va.int b) = true) (hab : a ≤ b) : m_P_is_saying (.silent w a b) p = true := by
  unfold m_P_is_saying
  simp [Sy.len, Sy.who, Sy.kd, Sy.h1, Sy.h2, hw, ha, hb, hab]
theorem say_barred {p : List Str} {w v : Str} (hw : w ∈ p) (h2 : m_P_are_two w v p = true) : m_P_is_saying (.barred w v) p = true := by
  unfold m_P_is_saying
  simp [Sy.len, Sy.who, Sy.kd, Sy.other, n_bs, n_bk, n_bu, hw, h2]
theorem good_saying {p : List Str} (nd : p.Nodup) (hp : 1 ≤ p.length) (n : Int) : m_P_is_saying (m_L_saying n p) p = true := by
  have hw : nth p (n % (p.length : Int)) ∈ p := nth_mem (inR_mod (by omega))
  have hh := good_hour (n / 120)
  have he := good_hour (n / 1000)
  unfold m_L_saying
  simp only [lt]
  split
  · exact say_knew hw hh
  · split
    · refine say_unheard hw fun i hi => ?_
      have h := nth_mem (xs := [some (m_L_hour (n / 120)), none]) (i := bi (decide (n / 7 % 9 = 1))) inR_bi
      rw [hi] at h
      simp only [List.mem_cons, List.not_mem_nil, or_false, Option.some.injEq, reduceCtorEq] at h
      rw [h]
      exact hh
    · split
      · have a1 : imin (m_L_hour (n / 120)) (m_L_hour (n / 1000)) ≤ imax (m_L_hour (n / 120)) (m_L_hour (n / 1000)) := by unfold imin imax; split <;> split <;> omega
        refine say_silent hw ?_ ?_ a1
        · unfold imin; split <;> assumption
        · unfold imax; split <;> assumption
      · split
        · rename_i h3
          simp only [Bool.and_eq_true, decide_eq_true_eq] at h3
          have h4 : 1 < p.length := by omega
          have hr : 0 ≤ n / 120 % ((p.length : Int) - 1) ∧ n / 120 % ((p.length : Int) - 1) < (p.length : Int) - 1 := ⟨Int.emod_nonneg _ (by omega), Int.emod_lt_of_pos _ (by omega)⟩
          have e : (n + 1 + n / 120 % ((p.length : Int) - 1)) % (p.length : Int) = (n % (p.length : Int) + 1 + n / 120 % ((p.length : Int) - 1)) % (p.length : Int) := by
            rw [Int.add_assoc, Int.add_assoc, Int.emod_add_emod]
          rw [e]
          exact say_barred hw (two_of nd h4 hr)
        · refine say_unheard hw fun i hi => ?_
          rw [← Option.some.inj hi]
          rw [hour_iff] at hh ⊢
          simp only [Bool.and_eq_true, decide_eq_true_eq] at hh ⊢
          omega
structure PartsOk (p : List Str) (s : List Sight) (t : List Talk) (y : List Sy) (n : Nat) : Prop where
  hs : ∀ x ∈ s, m_P_is_sight x p = true
  ht : ∀ x ∈ t, m_P_is_talk x p = true
  hy : ∀ x ∈ y, m_P_is_saying x p = true
  hsl : s.length ≤ 24
  hln : s.length + t.length + y.length ≤ n
theorem parts_of {p : List Str} {s : List Sight} {t : List Talk} {y : List Sy} {n : Nat} (h : PartsOk p s t y n) (hn : n ≤ 60) (hp : m_P_are_persons p = true) : goodBook p s t y := by
  have hl := h.hln
  have hs := h.hsl
  refine ⟨hp, ?_, ?_, ?_⟩
  · unfold m_P_are_all_at_is_sight
    rw [loop_all (fun x => m_P_is_sight x p), List.all_eq_true.mpr h.hs, decide_eq_false (show ¬ (24 : Int) < (s.length : Int) by omega)]
    rfl
  · unfold m_P_are_all_at_is_talk
    rw [loop_all (fun x => m_P_is_talk x p), List.all_eq_true.mpr h.ht, decide_eq_false (show ¬ (120 : Int) < (t.length : Int) by omega)]
    rfl
  · unfold m_P_are_all_at_is_saying
    rw [loop_all (fun x => m_P_is_saying x p), List.all_eq_true.mpr h.hy, decide_eq_false (show ¬ (60 : Int) < (y.length : Int) by omega)]
    rfl
theorem mem_snoc {α : Type} {P : α → Prop} {xs : List α} {x : α} (h : ∀ y ∈ xs, P y) (hx : P x) : ∀ y ∈ xs ++ [x], P y := fun y hy => by
  rcases List.mem_append.mp hy with h1 | h1
  · exact h y h1
  · rw [List.mem_singleton] at h1
    rw [h1]
    exact hx
theorem parts_fold {p : List Str} {α : Type} {f : List Sight × List Talk × List Sy → α → List Sight × List Talk × List Sy} (h : ∀ s x n, PartsOk p s.1 s.2.1 s.2.2 n → PartsOk p (f s x).1 (f s x).2.1 (f s x).2.2 (n + 1)) : ∀ {xs : List α} {s0 : List Sight × List Talk × List Sy} {n : Nat}, PartsOk p s0.1 s0.2.1 s0.2.2 n → PartsOk p (xs.foldl f s0).1 (xs.foldl f s0).2.1 (xs.foldl f s0).2.2 (n + xs.length)
  | [], _, _, q => q
  | x :: xs, s0, n, q => by
    have e : n + (x :: xs).length = (n + 1) + xs.length := by rw [List.length_cons]; omega
    rw [e]
    exact parts_fold h (xs := xs) (h s0 x n q)
theorem book_parts (script : List Int) (most : Int) (hs : script.length ≤ 63) (hm : 1 ≤ most) : ∃ n, n ≤ 60 ∧ PartsOk (m_L_book script most).1 (m_L_book script most).2.1 (m_L_book script most).2.2.1 (m_L_book script most).2.2.2 n ∧ NamesOk (m_L_book script most).1 ∧ 1 ≤ (m_L_book script most).1.length ∧ (m_L_book script most).1.length ≤ 24 ∧ ((m_L_book script most).1.length : Int) ≤ most := by
  have hN := names_good (nth (script ++ [0, 0, 0]) 0)
  have hl := names_len (nth (script ++ [0, 0, 0]) 0)
  unfold m_L_book
  simp only [lt]
  generalize m_L_names (nth (script ++ [0, 0, 0]) 0) = names at hN hl
  have c2 : 0 ≤ nth (script ++ [0, 0, 0]) 2 % 5 ∧ nth (script ++ [0, 0, 0]) 2 % 5 < 5 := by omega
  have c1 := Int.emod_nonneg (nth (script ++ [0, 0, 0]) 1) (b := most) (by omega)
  have c1b := Int.emod_lt_of_pos (nth (script ++ [0, 0, 0]) 1) (b := most) (by omega)
  have p1 := persons_pos (b := nth (script ++ [0, 0, 0]) 1) hl c2 hm
  have p3 : ((cut (cut names (some (nth (script ++ [0, 0, 0]) 2 % 5)) none) none (some (1 + nth (script ++ [0, 0, 0]) 1 % most))).length : Int) ≤ most := by
    unfold cut
    simp only [HT.sIx, List.length_take, List.length_drop]
    rw [if_neg (by omega), if_neg (by omega)]
    omega
  have p2 : (cut (cut names (some (nth (script ++ [0, 0, 0]) 2 % 5)) none) none (some (1 + nth (script ++ [0, 0, 0]) 1 % most))).length ≤ 24 := by
    have a := (cut_sub (xs := cut names (some (nth (script ++ [0, 0, 0]) 2 % 5)) none) (i := none) (j := some (1 + nth (script ++ [0, 0, 0]) 1 % most))).length_le
    have b := (cut_sub (xs := names) (i := some (nth (script ++ [0, 0, 0]) 2 % 5)) (j := none)).length_le
    omega
  have hP : NamesOk (cut (cut names (some (nth (script ++ [0, 0, 0]) 2 % 5)) none) none (some (1 + nth (script ++ [0, 0, 0]) 1 % most))) :=
    ⟨List.Nodup.sublist (cut_sub.trans cut_sub) hN.1, fun t ht => hN.2 t (mem_cut (mem_cut ht))⟩
  generalize cut (cut names (some (nth (script ++ [0, 0, 0]) 2 % 5)) none) none (some (1 + nth (script ++ [0, 0, 0]) 1 % most)) = pers at p1 p2 p3 hP
  have hlen : (enumL (cut script (some 3) (some 63))).length ≤ 60 := by
    rw [enumL_len]
    unfold cut
    simp only [HT.sIx, List.length_take, List.length_drop]
    rw [if_neg (by omega), if_neg (by omega)]
    omega
  refine ⟨(enumL (cut script (some 3) (some 63))).length, hlen, ?_, hP, p1, p2, p3⟩
  generalize enumL (cut script (some 3) (some 63)) = xs
  have hw : ∀ i : Int, nth pers (i % (pers.length : Int)) ∈ pers := fun i => nth_mem (inR_mod (by omega))
  have e := parts_fold (p := pers) (xs := xs) (n := 0) (s0 := (([] : List Sight), ([] : List Talk), ([] : List Sy))) (f := fun (s_10 : List Sight × List Talk × List Sy) (x_11 : Int × Int) =>
    (if ((decide (((x_11.2 % (10000000000000000000000000000000000000000 : Int)) + (((31 : Int) * x_11.1) * x_11.1)) * (48271 : Int) % ((100000000000000000000000000000000000000000 : Int) + (7 : Int)) % 8 < (2 : Int))) && (decide ((s_10.1.length : Int) < (24 : Int)))) then
      (s_10.1 ++ [((nth pers ((((x_11.2 % (10000000000000000000000000000000000000000 : Int)) + (((31 : Int) * x_11.1) * x_11.1)) * (48271 : Int) % ((100000000000000000000000000000000000000000 : Int) + (7 : Int)) / (8 : Int)) % (pers.length : Int))), (m_L_hour (((x_11.2 % (10000000000000000000000000000000000000000 : Int)) + (((31 : Int) * x_11.1) * x_11.1)) * (48271 : Int) % ((100000000000000000000000000000000000000000 : Int) + (7 : Int)) / (200 : Int))), (m_L_tale ((((x_11.2 % (10000000000000000000000000000000000000000 : Int)) + (((31 : Int) * x_11.1) * x_11.1)) * (48271 : Int) % ((100000000000000000000000000000000000000000 : Int) + (7 : Int)) / (8 : Int)) % (1000000000 : Int)) names))], s_10.2.1, s_10.2.2)
    else
      (if ((decide (((x_11.2 % (10000000000000000000000000000000000000000 : Int)) + (((31 : Int) * x_11.1) * x_11.1)) * (48271 : Int) % ((100000000000000000000000000000000000000000 : Int) + (7 : Int)) % 8 < (6 : Int))) && (decide ((1 : Int) < (pers.length : Int)))) then
        (s_10.1, s_10.2.1 ++ [(m_L_talk (((x_11.2 % (10000000000000000000000000000000000000000 : Int)) + (((31 : Int) * x_11.1) * x_11.1)) * (48271 : Int) % ((100000000000000000000000000000000000000000 : Int) + (7 : Int)) / (8 : Int)) pers)], s_10.2.2)
      else
        (s_10.1, s_10.2.1, s_10.2.2 ++ [(m_L_saying (((x_11.2 % (10000000000000000000000000000000000000000 : Int)) + (((31 : Int) * x_11.1) * x_11.1)) * (48271 : Int) % ((100000000000000000000000000000000000000000 : Int) + (7 : Int)) / (8 : Int)) pers)]))))
    (fun s x n h => by
      generalize ((x.2 % (10000000000000000000000000000000000000000 : Int)) + (((31 : Int) * x.1) * x.1)) * (48271 : Int) % ((100000000000000000000000000000000000000000 : Int) + (7 : Int)) = m
      split
      · rename_i hc
        simp only [Bool.and_eq_true, decide_eq_true_eq] at hc
        have h1 := h.hln
        exact ⟨mem_snoc h.hs (good_sight ⟨hN.1, hN.2⟩ hl (hw _) _ _), h.ht, h.hy, by rw [List.length_append]; simp only [List.length_cons, List.length_nil]; omega, by rw [List.length_append]; simp only [List.length_cons, List.length_nil]; omega⟩
      · split
        · rename_i hc
          simp only [Bool.and_eq_true, decide_eq_true_eq] at hc
          have h1 := h.hln
          exact ⟨h.hs, mem_snoc h.ht (good_talk hP.nd (by omega) _), h.hy, h.hsl, by rw [List.length_append]; simp only [List.length_cons, List.length_nil]; omega⟩
        · have h1 := h.hln
          exact ⟨h.hs, h.ht, mem_snoc h.hy (good_saying hP.nd p1 _), h.hsl, by rw [List.length_append]; simp only [List.length_cons, List.length_nil]; omega⟩)
    ⟨fun x hx => (nomatch hx), fun x hx => (nomatch hx), fun x hx => (nomatch hx), Nat.zero_le _, Nat.le_refl _⟩
  rw [Nat.zero_add] at e
  exact e
theorem say_who {s : Sy} {p : List Str} (h : m_P_is_saying s p = true) : s.who ∈ p := by
  unfold m_P_is_saying at h
  by_cases hw : s.who ∈ p
  · exact hw
  · rw [decide_eq_false hw] at h
    simp at h
structure Drawn (v : List Str × List Sight × List Talk × List Sy) : Prop where
  good : goodBook v.1 v.2.1 v.2.2.1 v.2.2.2
  who : ∀ s ∈ v.2.2.2, s.who ∈ v.1
  nd : v.1.Nodup
  n1 : 1 ≤ v.1.length ∧ v.1.length ≤ 24
  n2 : v.2.1.length + v.2.2.1.length + v.2.2.2.length ≤ 60
  s : ∀ x ∈ v.2.1, m_P_is_sight x v.1 = true
  t : ∀ x ∈ v.2.2.1, m_P_is_talk x v.1 = true
  y : ∀ x ∈ v.2.2.2, m_P_is_saying x v.1 = true
theorem drawn_of {v : List Str × List Sight × List Talk × List Sy} {script : List Int} {most : Int} (e : v = m_L_book script most) (hs : script.length ≤ 63) (hm : 1 ≤ most) : Drawn v := by
  subst e
  obtain ⟨n, hn, h1, h2, h3, h4, _⟩ := book_parts script most hs hm
  have hl := h1.hln
  exact ⟨parts_of h1 hn (good_persons h2 ⟨h3, h4⟩), fun s hs => say_who (h1.hy s hs), h2.nd, ⟨h3, h4⟩, by omega, h1.hs, h1.ht, h1.hy⟩
def m_P_Book_at_own (a_persons : (List Str)) (a_sights : (List (Str × Int × (List Str)))) (a_talks : (List (Int × Str × Str × Str))) (a_sayings : (List Sy)) : ((List Str) × (List (Str × Int × (List Str))) × (List (Int × Str × Str × Str)) × (List Sy)) :=
  (a_persons, a_sights, a_talks, a_sayings)
def m_P_Book_persons (a_self : BookV) : (List Str) :=
  a_self.crew
def m_P_Book_sights (a_self : BookV) : (List (Str × Int × (List Str))) :=
  a_self.views
def m_P_Book_talks (a_self : BookV) : (List (Int × Str × Str × Str)) :=
  a_self.meetings
def m_P_Book_sayings (a_self : BookV) : (List Sy) :=
  a_self.claims
def m_L_told_at_own (a_book_here : BookV) : ((List Str) × (List (Str × Int × (List Str))) × (List (Int × Str × Str × Str)) × (List Sy)) :=
  ((m_P_Book_persons a_book_here), (m_P_Book_sights a_book_here), (m_P_Book_talks a_book_here), (m_P_Book_sayings a_book_here))
def m_L_alike (rec : Va → Va → Bool) (a_found : Va) (a_due : Va) : Bool :=
  (if ((isA "str" a_due) || (isN a_due)) then
    ((decide ((isA "str" a_found) = (isA "str" a_due))) && (eqA a_found a_due))
  else
  (if (isA "int" a_due) then
    ((isA "int" a_found) && ((!(isA "bool" a_found)) && (eqA a_found a_due)))
  else
  (if ((!decide ((isA "tuple" a_due) = (isA "tuple" a_found))) || (!decide ((isA "list" a_due) = (isA "list" a_found)))) then
    false
  else
  (if (!decide ((a_found.items.length : Int) = (a_due.items.length : Int))) then
    false
  else
  lp (loopL (R := Bool) (fun (s_14 : Unit) (x_15 : (Va × Va)) =>
    (if (!(rec x_15.1 x_15.2)) then
      (Ret.rt false)
    else
      (Ret.nx ()))) (a_found.items.zip a_due.items) ()) fun (s_14 : Unit) =>
  true))))
def R_L_alike : Nat → Va → Va → Bool
  | 0 => m_L_alike fun _ _ => false
  | n + 1 => m_L_alike (R_L_alike n)
def m_L_told (a_book_here : BookV) : ((List Str) × (List (Str × Int × (List Str))) × (List (Int × Str × Str × Str)) × (List Sy)) :=
  ((m_P_Book_persons a_book_here), (m_P_Book_sights a_book_here), (m_P_Book_talks a_book_here), (m_P_Book_sayings a_book_here))
def m_L_law (a_script : (List Int)) : Bool :=
  lt (m_L_book a_script (24 : Int)) fun due_1 =>
  lt (BookV.mk due_1.1 due_1.2.1 due_1.2.2.1 due_1.2.2.2) fun book_here_7 =>
  (if (!decide ((due_1.1, due_1.2.1, due_1.2.2.1, due_1.2.2.2) = due_1)) then
    false
  else
  lt (m_L_told_at_own book_here_7) fun told_here_9 =>
  (if (!(R_L_alike 4 ((fun x : ((List Str) × (List (Str × Int × (List Str))) × (List (Int × Str × Str × Str)) × (List Sy)) => Va.lst [(fun xs : (List Str) => Va.lst (xs.map Va.str)) x.1, (fun xs : (List (Str × Int × (List Str))) => Va.lst (xs.map (fun x : (Str × Int × (List Str)) => Va.tup [Va.str x.1, Va.int x.2.1, (fun xs : (List Str) => Va.tup (xs.map Va.str)) x.2.2]))) x.2.1, (fun xs : (List (Int × Str × Str × Str)) => Va.lst (xs.map (fun x : (Int × Str × Str × Str) => Va.tup [Va.int x.1, Va.str x.2.1, Va.str x.2.2.1, Va.str x.2.2.2]))) x.2.2.1, (fun xs : (List Sy) => Va.lst (xs.map syA)) x.2.2.2]) (told_here_9.1, told_here_9.2.1, told_here_9.2.2.1, told_here_9.2.2.2)) ((fun x : ((List Str) × (List (Str × Int × (List Str))) × (List (Int × Str × Str × Str)) × (List Sy)) => Va.lst [(fun xs : (List Str) => Va.lst (xs.map Va.str)) x.1, (fun xs : (List (Str × Int × (List Str))) => Va.lst (xs.map (fun x : (Str × Int × (List Str)) => Va.tup [Va.str x.1, Va.int x.2.1, (fun xs : (List Str) => Va.tup (xs.map Va.str)) x.2.2]))) x.2.1, (fun xs : (List (Int × Str × Str × Str)) => Va.lst (xs.map (fun x : (Int × Str × Str × Str) => Va.tup [Va.int x.1, Va.str x.2.1, Va.str x.2.2.1, Va.str x.2.2.2]))) x.2.2.1, (fun xs : (List Sy) => Va.lst (xs.map syA)) x.2.2.2]) due_1))) then
    false
  else
  (R_L_alike 4 ((fun x : ((List Str) × (List (Str × Int × (List Str))) × (List (Int × Str × Str × Str)) × (List Sy)) => Va.lst [(fun xs : (List Str) => Va.lst (xs.map Va.str)) x.1, (fun xs : (List (Str × Int × (List Str))) => Va.lst (xs.map (fun x : (Str × Int × (List Str)) => Va.tup [Va.str x.1, Va.int x.2.1, (fun xs : (List Str) => Va.tup (xs.map Va.str)) x.2.2]))) x.2.1, (fun xs : (List (Int × Str × Str × Str)) => Va.lst (xs.map (fun x : (Int × Str × Str × Str) => Va.tup [Va.int x.1, Va.str x.2.1, Va.str x.2.2.1, Va.str x.2.2.2]))) x.2.2.1, (fun xs : (List Sy) => Va.lst (xs.map syA)) x.2.2.2]) (m_L_told book_here_7)) ((fun x : ((List Str) × (List (Str × Int × (List Str))) × (List (Int × Str × Str × Str)) × (List Sy)) => Va.lst [(fun xs : (List Str) => Va.lst (xs.map Va.str)) x.1, (fun xs : (List (Str × Int × (List Str))) => Va.lst (xs.map (fun x : (Str × Int × (List Str)) => Va.tup [Va.str x.1, Va.int x.2.1, (fun xs : (List Str) => Va.tup (xs.map Va.str)) x.2.2]))) x.2.1, (fun xs : (List (Int × Str × Str × Str)) => Va.lst (xs.map (fun x : (Int × Str × Str × Str) => Va.tup [Va.int x.1, Va.str x.2.1, Va.str x.2.2.1, Va.str x.2.2.2]))) x.2.2.1, (fun xs : (List Sy) => Va.lst (xs.map syA)) x.2.2.2]) due_1))))
end Kn
namespace Kn
open PySem PySem.Spec L2
local macro_rules | `(tactic| trivial) => `(tactic| omega)
local macro_rules | `(tactic| trivial) => `(tactic| (unfold inR; omega))
local macro_rules | `(tactic| trivial) => `(tactic| (simp only [inR, sizeN, slen_app, signAt_len, upto_len, range2_len, enumL_len, signs_len, List.length_append, List.length_cons, List.length_nil, List.length_map] at *; omega))
local macro_rules | `(tactic| trivial) => `(tactic| (apply inR_mod; omega))
local macro_rules | `(tactic| trivial) => `(tactic| exact inR_bi)
local macro_rules | `(tactic| trivial) => `(tactic| (simp only [Bool.and_eq_true, Bool.or_eq_false_iff, decide_eq_true_eq, decide_eq_false_iff_not, Bool.not_eq_true', Bool.not_eq_false'] at *; omega))
local macro_rules | `(tactic| trivial) => `(tactic| (simp only [List.map_map, Function.comp_def, signAt_len, List.length_map, upto_len, List.map_const', List.sum_replicate_nat, empty_len]; omega))
local macro_rules | `(tactic| trivial) => `(tactic| (apply inR_mod; assumption))
local macro_rules | `(tactic| trivial) => `(tactic| assumption)
local macro_rules | `(tactic| trivial) => `(tactic| solve_by_elim)
local macro_rules | `(tactic| trivial) => `(tactic| (apply And.intro <;> assumption))
local macro_rules | `(tactic| trivial) => `(tactic| (show _ ∧ _; omega))
local macro_rules | `(tactic| trivial) => `(tactic| (apply has_srt; assumption))
local macro_rules | `(tactic| trivial) => `(tactic| (rw [srt_len]; unfold kys; rw [List.length_map]; omega))
local macro_rules | `(tactic| trivial) => `(tactic| (apply And.intro <;> first | assumption | omega | (apply And.intro <;> first | assumption | omega)))
local macro_rules | `(tactic| trivial) => `(tactic| (apply And.intro; assumption; apply wy_nsaw; assumption))
local macro_rules | `(tactic| trivial) => `(tactic| (simp only [List.length_reverse, List.length_append, sizeN] at *; omega))
local macro_rules | `(tactic| trivial) => `(tactic| (rw [List.length_map]; omega))
def sp_L_names (G : Cfg) : SpecD := fun ds O rk => ∃ (a_cell : Int), (True) ∧ ds = [dI a_cell] ∧ rk = RK.val ((dLo G.K dS) (m_L_names a_cell)) O
def sp_L_hour (G : Cfg) : SpecD := fun ds O rk => ∃ (a_number : Int), (True) ∧ ds = [dI a_number] ∧ rk = RK.val (dI (m_L_hour a_number)) O
def sp_L_tale (G : Cfg) : SpecD := fun ds O rk => ∃ (a_number : Int) (a_names_here : (List Str)), (a_names_here.length = 24) ∧ ds = [dI a_number, (dLo G.K dS) a_names_here] ∧ rk = RK.val ((dVt G.K dS) (m_L_tale a_number a_names_here)) O
def sp_L_talk (G : Cfg) : SpecD := fun ds O rk => ∃ (a_number : Int) (a_persons : (List Str)), (1 < a_persons.length) ∧ ds = [dI a_number, (dLo G.K dS) a_persons] ∧ rk = RK.val ((dT4 G.K dI dS dS dS) (m_L_talk a_number a_persons)) O
def sp_L_saying (G : Cfg) : SpecD := fun ds O rk => ∃ (a_number : Int) (a_persons : (List Str)), (1 ≤ a_persons.length) ∧ ds = [dI a_number, (dLo G.K dS) a_persons] ∧ rk = RK.val ((dSy G.K) (m_L_saying a_number a_persons)) O
def sp_L_book (G : Cfg) : SpecD := fun ds O rk => ∃ (a_script : (List Int)) (a_most : Int), (a_script.length ≤ 63 ∧ 1 ≤ a_most) ∧ ds = [(dLo G.K dI) a_script, dI a_most] ∧ rk = RK.val ((fun x : ((List Str) × (List (Str × Int × (List Str))) × (List (Int × Str × Str × Str)) × (List Sy)) => dLst G.K [(dLo G.K dS) x.1, (dLo G.K (dT3 G.K dS dI (dVt G.K dS))) x.2.1, (dLo G.K (dT4 G.K dI dS dS dS)) x.2.2.1, (dLo G.K (dSy G.K)) x.2.2.2]) (m_L_book a_script a_most)) O
def sp_P_is_name (G : Cfg) : SpecD := fun ds O rk => ∃ (a_thing : Va), (True) ∧ ds = [(dA G.K) a_thing] ∧ rk = RK.val (dB (m_P_is_name a_thing)) O
def sp_P_are_persons (G : Cfg) : SpecD := fun ds O rk => ∃ (a_thing : (List Str)), (True) ∧ ds = [(dLo G.K dS) a_thing] ∧ rk = RK.val (dB (m_P_are_persons a_thing)) O
def sp_P_is_tuple_of (G : Cfg) : SpecD := fun ds O rk => ∃ (a_thing : Va) (a_many : Int), (True) ∧ ds = [(dA G.K) a_thing, dI a_many] ∧ rk = RK.val (dB (m_P_is_tuple_of a_thing a_many)) O
def sp_P_is_whole (G : Cfg) : SpecD := fun ds O rk => ∃ (a_thing : Va), (True) ∧ ds = [(dA G.K) a_thing] ∧ rk = RK.val (dB (m_P_is_whole a_thing)) O
def sp_P_is_hour (G : Cfg) : SpecD := fun ds O rk => ∃ (a_thing : Va), (True) ∧ ds = [(dA G.K) a_thing] ∧ rk = RK.val (dB (m_P_is_hour a_thing)) O
def sp_P_is_tale (G : Cfg) : SpecD := fun ds O rk => ∃ (a_thing : (List Str)), (True) ∧ ds = [(dVt G.K dS) a_thing] ∧ rk = RK.val (dB (m_P_is_tale a_thing)) O
def sp_P_is_sight (G : Cfg) : SpecD := fun ds O rk => ∃ (a_thing : (Str × Int × (List Str))) (a_persons : (List Str)), (True) ∧ ds = [(dT3 G.K dS dI (dVt G.K dS)) a_thing, (dLo G.K dS) a_persons] ∧ rk = RK.val (dB (m_P_is_sight a_thing a_persons)) O
def sp_P_are_all_at_is_sight (G : Cfg) : SpecD := fun ds O rk => ∃ (a_thing : (List (Str × Int × (List Str)))) (a_most : Int) (a_persons : (List Str)), (True) ∧ ds = [(dLo G.K (dT3 G.K dS dI (dVt G.K dS))) a_thing, dI a_most, (dLo G.K dS) a_persons, dFn G 3 (sp_P_is_sight G)] ∧ rk = RK.val (dB (m_P_are_all_at_is_sight a_thing a_most a_persons)) O
def sp_P_are_two (G : Cfg) : SpecD := fun ds O rk => ∃ (a_one : Str) (a_other : Str) (a_persons : (List Str)), (True) ∧ ds = [dS a_one, dS a_other, (dLo G.K dS) a_persons] ∧ rk = RK.val (dB (m_P_are_two a_one a_other a_persons)) O
def sp_P_is_talk (G : Cfg) : SpecD := fun ds O rk => ∃ (a_thing : (Int × Str × Str × Str)) (a_persons : (List Str)), (True) ∧ ds = [(dT4 G.K dI dS dS dS) a_thing, (dLo G.K dS) a_persons] ∧ rk = RK.val (dB (m_P_is_talk a_thing a_persons)) O
def sp_P_are_all_at_is_talk (G : Cfg) : SpecD := fun ds O rk => ∃ (a_thing : (List (Int × Str × Str × Str))) (a_most : Int) (a_persons : (List Str)), (True) ∧ ds = [(dLo G.K (dT4 G.K dI dS dS dS)) a_thing, dI a_most, (dLo G.K dS) a_persons, dFn G 3 (sp_P_is_talk G)] ∧ rk = RK.val (dB (m_P_are_all_at_is_talk a_thing a_most a_persons)) O
def sp_P_is_saying (G : Cfg) : SpecD := fun ds O rk => ∃ (a_thing : Sy) (a_persons : (List Str)), (True) ∧ ds = [(dSy G.K) a_thing, (dLo G.K dS) a_persons] ∧ rk = RK.val (dB (m_P_is_saying a_thing a_persons)) O
def sp_P_are_all_at_is_saying (G : Cfg) : SpecD := fun ds O rk => ∃ (a_thing : (List Sy)) (a_most : Int) (a_persons : (List Str)), (True) ∧ ds = [(dLo G.K (dSy G.K)) a_thing, dI a_most, (dLo G.K dS) a_persons, dFn G 3 (sp_P_is_saying G)] ∧ rk = RK.val (dB (m_P_are_all_at_is_saying a_thing a_most a_persons)) O
def sp_P_Book_at_own (G : Cfg) : SpecD := fun ds O rk => ∃ (p : Addr) (O1 : Own) (a_persons : (List Str)) (a_sights : (List (Str × Int × (List Str)))) (a_talks : (List (Int × Str × Str × Str))) (a_sayings : (List Sy)), (goodBook a_persons a_sights a_talks a_sayings) ∧ O = (p, oIns G "Book" [] []) :: O1 ∧ ds = [dP p, (dLo G.K dS) a_persons, (dLo G.K (dT3 G.K dS dI (dVt G.K dS))) a_sights, (dLo G.K (dT4 G.K dI dS dS dS)) a_talks, (dLo G.K (dSy G.K)) a_sayings] ∧ rk = RK.unitS (fun O' => ∃ (p_0 : Addr) (p_1 : Addr) (p_2 : Addr) (p_3 : Addr), O' = (p, oIns G "Book" ["crew", "views", "meetings", "claims"] [dP p_0, dP p_1, dP p_2, dP p_3]) :: (p_0, oLst (((m_P_Book_at_own a_persons a_sights a_talks a_sayings).1).map dS)) :: (p_1, oLst (((m_P_Book_at_own a_persons a_sights a_talks a_sayings).2.1).map (dT3 G.K dS dI (dVt G.K dS)))) :: (p_2, oLst (((m_P_Book_at_own a_persons a_sights a_talks a_sayings).2.2.1).map (dT4 G.K dI dS dS dS))) :: (p_3, oLst (((m_P_Book_at_own a_persons a_sights a_talks a_sayings).2.2.2).map (dSy G.K))) :: O1)
def sp_P_Book_persons (G : Cfg) : SpecD := fun ds O rk => ∃ (a_self : BookV), (True) ∧ ds = [(dBook G) a_self] ∧ rk = RK.new ((fun r => oLst (List.map dS r)) (m_P_Book_persons a_self)) O
def sp_P_Book_sights (G : Cfg) : SpecD := fun ds O rk => ∃ (a_self : BookV), (True) ∧ ds = [(dBook G) a_self] ∧ rk = RK.new ((fun r => oLst (List.map (dT3 G.K dS dI (dVt G.K dS)) r)) (m_P_Book_sights a_self)) O
def sp_P_Book_talks (G : Cfg) : SpecD := fun ds O rk => ∃ (a_self : BookV), (True) ∧ ds = [(dBook G) a_self] ∧ rk = RK.new ((fun r => oLst (List.map (dT4 G.K dI dS dS dS) r)) (m_P_Book_talks a_self)) O
def sp_P_Book_sayings (G : Cfg) : SpecD := fun ds O rk => ∃ (a_self : BookV), (True) ∧ ds = [(dBook G) a_self] ∧ rk = RK.new ((fun r => oLst (List.map (dSy G.K) r)) (m_P_Book_sayings a_self)) O
def sp_L_told_at_own (G : Cfg) : SpecD := fun ds O rk => ∃ (a_book_here : BookV), (True) ∧ ds = [(dBook G) a_book_here] ∧ rk = RK.set (fun O' d => ∃ (p_0 : Addr) (p_1 : Addr) (p_2 : Addr) (p_3 : Addr), O' = (p_3, oLst (((m_L_told_at_own a_book_here).2.2.2).map (dSy G.K))) :: (p_2, oLst (((m_L_told_at_own a_book_here).2.2.1).map (dT4 G.K dI dS dS dS))) :: (p_1, oLst (((m_L_told_at_own a_book_here).2.1).map (dT3 G.K dS dI (dVt G.K dS)))) :: (p_0, oLst (((m_L_told_at_own a_book_here).1).map dS)) :: O ∧ d = dLst G.K [dP p_0, dP p_1, dP p_2, dP p_3])
def sn_L_alike (n : Nat) (G : Cfg) : SpecD := fun ds O rk => ∃ (x y : Va), Fit n x ∧ Fit n y ∧ ds = [dA G.K x, dA G.K y] ∧ rk = RK.val (dB (R_L_alike n x y)) O
def sp_L_alike (G : Cfg) : SpecD := sn_L_alike 4 G
def sp_L_told (G : Cfg) : SpecD := fun ds O rk => ∃ (a_book_here : BookV), (True) ∧ ds = [(dBook G) a_book_here] ∧ rk = RK.val ((fun x : ((List Str) × (List (Str × Int × (List Str))) × (List (Int × Str × Str × Str)) × (List Sy)) => dLst G.K [(dLo G.K dS) x.1, (dLo G.K (dT3 G.K dS dI (dVt G.K dS))) x.2.1, (dLo G.K (dT4 G.K dI dS dS dS)) x.2.2.1, (dLo G.K (dSy G.K)) x.2.2.2]) (m_L_told a_book_here)) O
def sp_L_law (G : Cfg) : SpecD := fun ds O rk => ∃ (a_script : (List Int)), (a_script.length ≤ 63 ∧ NoTups O) ∧ ds = [(dLo G.K dI) a_script] ∧ rk = RK.val (dB (m_L_law a_script)) O
structure All (G : Cfg) : Prop where
  d_L_names : Def G "_law_names" (top 28)
  d_L_hour : Def G "_law_hour" (top 29)
  d_L_tale : Def G "_law_tale" (top 30)
  d_L_talk : Def G "_law_talk" (top 31)
  d_L_saying : Def G "_law_saying" (top 32)
  d_L_book : Def G "_law_book" (top 33)
  d_P_is_name : Def G "is_name" (top 11)
  d_P_are_persons : Def G "are_persons" (top 19)
  d_P_is_tuple_of : Def G "is_tuple_of" (top 18)
  d_P_is_whole : Def G "is_whole" (top 9)
  d_P_is_hour : Def G "is_hour" (top 10)
  d_P_is_tale : Def G "is_tale" (top 20)
  d_P_is_sight : Def G "is_sight" (top 21)
  d_P_are_all : Def G "are_all" (top 25)
  d_P_are_two : Def G "are_two" (top 22)
  d_P_is_talk : Def G "is_talk" (top 23)
  d_P_is_saying : Def G "is_saying" (top 24)
  d_L_told : Def G "_law_told" (top 35)
  d_L_alike : Def G "_law_alike" (top 34)
  d_L_law : Def G "law" (top 36)
  d_P_Book_persons : DefM G "Book" "persons" "Book.persons" (inClass (top 26) 1)
  d_P_Book_sights : DefM G "Book" "sights" "Book.sights" (inClass (top 26) 2)
  d_P_Book_talks : DefM G "Book" "talks" "Book.talks" (inClass (top 26) 3)
  d_P_Book_sayings : DefM G "Book" "sayings" "Book.sayings" (inClass (top 26) 4)
  i_Book : DefI G "Book" "Book.__init__" (inClass (top 26) 0)
  a_Book_claims : NoAt G "Book" "claims"
  a_Book_crew : NoAt G "Book" "crew"
  a_Book_meetings : NoAt G "Book" "meetings"
  a_Book_views : NoAt G "Book" "views"
  b_bool : G.mg "bool" = none
  b_enumerate : G.mg "enumerate" = none
  b_int : G.mg "int" = none
  b_isinstance : G.mg "isinstance" = none
  b_len : G.mg "len" = none
  b_list : G.mg "list" = none
  b_max : G.mg "max" = none
  b_min : G.mg "min" = none
  b_range : G.mg "range" = none
  b_set : G.mg "set" = none
  b_str : G.mg "str" = none
  b_tuple : G.mg "tuple" = none
  b_zip : G.mg "zip" = none
  c_KEPT_WORDS : ∃ p, G.mg "KEPT_WORDS" = some (.ref p) ∧ ∀ H, SqT G.K H p (K_KEPT_WORDS.map V.str)
  c_LAST_HOUR : ∃ t, G.mg "LAST_HOUR" = some (.int 1000000000000000000 t)
  c_LETTERS : ∃ t, G.mg "LETTERS" = some (.str K_LETTERS t)
  c_LONGEST : ∃ t, G.mg "LONGEST" = some (.int 12 t)
  c_MOST_PERSONS : ∃ t, G.mg "MOST_PERSONS" = some (.int 24 t)
  c_MOST_SAYINGS : ∃ t, G.mg "MOST_SAYINGS" = some (.int 60 t)
  c_MOST_SIGHTS : ∃ t, G.mg "MOST_SIGHTS" = some (.int 24 t)
  c_MOST_TALKS : ∃ t, G.mg "MOST_TALKS" = some (.int 120 t)
  c_MOST_WORDS : ∃ t, G.mg "MOST_WORDS" = some (.int 6 t)
def N_L_names : List Str := ["_law_cell", "_law_letters", "_law_number", "_law_many", "_law_stem", "_law_k", "_law_at", "_law_more", "_law_names_here", "_law_name"]
def C_L_names : Sc := ⟨0, N_L_names, defScope (top 28), true, true⟩
instance : Calm C_L_names := ⟨rfl⟩
theorem nd_L_names : C_L_names.N.Nodup := by decide +kernel
theorem V_L_names_0 : Var C_L_names 0 "_law_cell" := var_of (by decide +kernel)
theorem V_L_names_1 : Var C_L_names 1 "_law_letters" := var_of (by decide +kernel)
theorem V_L_names_2 : Var C_L_names 2 "_law_number" := var_of (by decide +kernel)
theorem V_L_names_3 : Var C_L_names 3 "_law_many" := var_of (by decide +kernel)
theorem V_L_names_4 : Var C_L_names 4 "_law_stem" := var_of (by decide +kernel)
theorem V_L_names_5 : Var C_L_names 5 "_law_k" := var_of (by decide +kernel)
theorem V_L_names_6 : Var C_L_names 6 "_law_at" := var_of (by decide +kernel)
theorem V_L_names_7 : Var C_L_names 7 "_law_more" := var_of (by decide +kernel)
theorem V_L_names_8 : Var C_L_names 8 "_law_names_here" := var_of (by decide +kernel)
theorem V_L_names_9 : Var C_L_names 9 "_law_name" := var_of (by decide +kernel)
theorem S_L_names_1 : Loca C_L_names 1 "_law_letters" := loc_of (by decide +kernel)
theorem S_L_names_2 : Loca C_L_names 2 "_law_number" := loc_of (by decide +kernel)
theorem S_L_names_3 : Loca C_L_names 3 "_law_many" := loc_of (by decide +kernel)
theorem S_L_names_4 : Loca C_L_names 4 "_law_stem" := loc_of (by decide +kernel)
theorem S_L_names_5 : Loca C_L_names 5 "_law_k" := loc_of (by decide +kernel)
theorem S_L_names_6 : Loca C_L_names 6 "_law_at" := loc_of (by decide +kernel)
theorem S_L_names_7 : Loca C_L_names 7 "_law_more" := loc_of (by decide +kernel)
theorem S_L_names_8 : Loca C_L_names 8 "_law_names_here" := loc_of (by decide +kernel)
theorem S_L_names_9 : Loca C_L_names 9 "_law_name" := loc_of (by decide +kernel)
theorem G_L_names_range : Glo C_L_names "range" := glo_of (by decide +kernel)
theorem b_L_names {G : Cfg} (A : All G) (O : Own) (a_cell : Int) : SS G C_L_names (defBody (top 28)) (frame0 N_L_names [dI a_cell]) O (fnV (dLo G.K dS) O) (.rt (m_L_names a_cell)) := by
  unfold m_L_names
  refine ss_asg (f := dS) .rt S_L_names_1 (fun _ => rfl) e_str ?_
  intro letters_1 hletters_1
  have hletters_1_l : letters_1.length = 22 := by rw [hletters_1]; decide +kernel
  refine ss_asg (f := dI) .rt S_L_names_2 (fun _ => rfl) (e_mod (e_mulR (e_add (e_mod (e_var V_L_names_0 rfl) (e_powC 1000000000000000 e_int e_int (by decide +kernel)) (by trivial)) e_int) e_int (by trivial)) e_int (by trivial)) ?_
  intro number_2 hnumber_2
  refine ss_asg (f := dI) .rt S_L_names_3 (fun _ => rfl) (e_mod (e_var V_L_names_2 rfl) e_int (by trivial)) ?_
  intro many_3 hmany_3
  refine ss_asg (f := dS) .rt S_L_names_4 (fun _ => rfl) (e_join e_str (en_lst (en_lc (own := [("_law_k", 5)]) (df := dI) (dg := dS) (xs := (upto many_3)) (g := fun e_4 => (signAt letters_1 (((number_2 / (11 : Int)) + (((5 : Int) * e_4) * e_4)) % (22 : Int)))) nd_L_names (ei_range G_L_names_range A.b_range (e_var V_L_names_3 rfl) (by first | omega | trivial) (fun _ => rfl)) (fun _ _ => trivial) (blkOk_by (by decide +kernel)) (fun e_4 => (tj_name (loc_of (i := 5) (by decide +kernel)))) (by decide) (fun e_4 hm_5 q_ _ => by have := mem_upto hm_5; exact (e_ixS (e_var (var_of (i := 1) (by decide +kernel)) rfl) (e_mod (e_add (e_divS (e_var (var_of (i := 2) (by decide +kernel)) rfl) e_int (by trivial)) (e_mulR (e_mulL e_int (e_var (var_of (i := 5) (by decide +kernel)) rfl) (by trivial)) (e_var (var_of (i := 5) (by decide +kernel)) rfl) (by trivial))) e_int (by trivial)) (by trivial) (fun _ _ => rfl))) (by trivial) (fun _ _ => rfl))) (by trivial) (fun _ => rfl) (fun _ => rfl) rfl) ?_
  intro stem_7 hstem_7
  have hl_stem_7 : stem_7.length ≤ 11 := by rw [hstem_7]; exact Nat.le_trans join_signs (by rw [upto_len]; omega)
  refine ss_asg (f := dI) .rt S_L_names_6 (fun _ => rfl) (e_mod (e_divS (e_var V_L_names_2 rfl) e_int (by trivial)) (e_add (e_var V_L_names_3 rfl) e_int) (by trivial)) ?_
  intro at_8 hat_8
  refine ss_asg (f := dS) .rt S_L_names_7 (fun _ => rfl) (e_ixS (e_var V_L_names_1 rfl) (e_mod (e_divS (e_var V_L_names_2 rfl) e_int (by trivial)) e_int (by trivial)) (by trivial) (fun _ _ => rfl)) ?_
  intro more_9 hmore_9
  have hl_more_9 : more_9.length = 1 := by rw [hmore_9]; rfl
  refine ss_asg (f := (dLo G.K dS)) .rt S_L_names_8 (fun _ => rfl) (en_lst (en_list (ds := []) a_nil (Nat.le_of_ble_eq_true rfl))) ?_
  intro names_here_10 hnames_here_10
  have hnames_here_10_l : names_here_10.length = 0 := by rw [hnames_here_10]; rfl
  refine ss_fold (Γ := [some (dI a_cell), some (dS letters_1), some (dI number_2), some (dI many_3), some (dS stem_7), none, some (dI at_8), some (dS more_9), some ((dLo G.K dS) names_here_10), none]) (df := dI) (s0 := names_here_10) .rt (fun s_11 : (List Str) => [some (dI a_cell), some (dS letters_1), some (dI number_2), some (dI many_3), some (dS stem_7), none, some (dI at_8), some (dS more_9), some ((dLo G.K dS) s_11), none]) (fun (s_11 : (List Str)) (x_12 : Int) => ([some (dI a_cell), some (dS letters_1), some (dI number_2), some (dI many_3), some (dS stem_7), none, some (dI at_8), some (dS more_9), some ((dLo G.K dS) s_11), none]).set 5 (some (dI x_12))) (fun s_11 : (List Str) => O) (ei_range G_L_names_range A.b_range e_int (by first | omega | trivial) (fun _ => rfl)) (by exact ⟨.inr rfl, .inr rfl, .inr rfl, .inr rfl, .inr rfl, .inl rfl, .inr rfl, .inr rfl, .inr rfl, .inl rfl, trivial⟩) rfl (fun _ => trivial) (fun s_11 x_12 => (tj_name S_L_names_5)) ?_ ?_ (fun _ _ => rfl)
  ·
    intro s_11 x_12 pre_13 post_14 hs_15 hf_16
    have hm_17 : x_12 ∈ (upto (12 : Int)) := by rw [hs_15]; simp
    have := mem_upto hm_17
    have hpl_18 : pre_13.length < ((upto (12 : Int))).length := by rw [hs_15, List.length_append, List.length_cons]; omega
    rw [upto_len] at hpl_18
    have hgrow_19 : (s_11).length ≤ (names_here_10).length + 2 * pre_13.length := by
      rw [hf_16]
      refine foldl_meas (m := fun s_11 : (List Str) => (s_11).length) ?_ (s0 := names_here_10)
      intro _ _
      first | exact app_le | exact putIf_len | (simp only [lt]; exact dPut_len) | (simp only [lt]; split <;> first | exact dPut_len | omega) | ((try simp only [lt]); (repeat' split) <;> first | exact dPut_len | exact Nat.le_succ _) | (simp only [lt, slen_app, signAt_len, List.length_append, List.length_cons, List.length_nil]; omega) | ((try simp only [lt]); (repeat' split) <;> ((try simp only [lt, slen_app, signAt_len, List.length_append, List.length_cons, List.length_nil]); omega))
    have := @cutS_len stem_7 none (some at_8)
    have := @cutS_len stem_7 (some at_8) none
    refine ss_asg (f := dS) .nx S_L_names_9 (fun _ => rfl) (e_addS (e_addS (e_slS (e_var V_L_names_4 rfl) eo_none (eo_some (e_var V_L_names_6 rfl))) (e_ixS (e_var V_L_names_1 rfl) (e_mod (e_add (e_divS (e_var V_L_names_2 rfl) e_int (by trivial)) (e_mulL e_int (e_var V_L_names_5 rfl) (by trivial))) e_int (by trivial)) (by trivial) (fun _ _ => rfl)) (by trivial)) (e_slS (e_var V_L_names_4 rfl) (eo_some (e_var V_L_names_6 rfl)) eo_none) (by trivial)) ?_
    intro name_20 hname_20
    have hl_name_20 : name_20.length ≤ 30 := by
      rw [hname_20]; simp only [slen_app, signAt_len]; omega
    refine ss_asg (f := (dLo G.K dS)) .nx S_L_names_8 (fun _ => rfl) (en_lst (en_cat (f := dS) (xs := s_11) (ys := [name_20, (name_20 ++ more_9)]) (e_var V_L_names_8 rfl) (en_lst (en_list (ds := [dS name_20, dS (name_20 ++ more_9)]) (a_cons (e_var V_L_names_9 rfl) (a_cons (e_addS (e_var V_L_names_9 rfl) (e_var V_L_names_7 rfl) (by trivial)) a_nil (fun _ => rfl)) (fun _ => rfl)) (Nat.le_of_ble_eq_true rfl))) (by trivial))) ?_
    intro names_here_21 hnames_here_21
    exact ss_end (hold_end (by exact ⟨.inr rfl, .inr rfl, .inr rfl, .inr rfl, .inr rfl, .inl rfl, .inr rfl, .inr rfl, .inr rfl, .inl rfl, trivial⟩))
  intro s_11 he_L0
  have hgrow_24 : (s_11).length ≤ (names_here_10).length + 2 * ((upto (12 : Int))).length := by
    rw [he_L0]
    refine foldl_meas (m := fun s_11 : (List Str) => (s_11).length) ?_ (s0 := names_here_10)
    intro _ _
    first | exact app_le | exact putIf_len | (simp only [lt]; exact dPut_len) | (simp only [lt]; split <;> first | exact dPut_len | omega) | ((try simp only [lt]); (repeat' split) <;> first | exact dPut_len | exact Nat.le_succ _) | (simp only [lt, slen_app, signAt_len, List.length_append, List.length_cons, List.length_nil]; omega) | ((try simp only [lt]); (repeat' split) <;> ((try simp only [lt, slen_app, signAt_len, List.length_append, List.length_cons, List.length_nil]); omega))
  rw [upto_len] at hgrow_24
  exact ss_ret (e_var V_L_names_8 rfl) (fun _ _ _ h => h)
theorem k_L_names {G : Cfg} (A : All G) : Callee G 1 "_law_names" (sp_L_names G) := by
  refine A.d_L_names.callee (N := N_L_names) (ps := ["_law_cell"]) (scope_of rfl rfl rfl (by decide +kernel)) (fun ds O rk h => ?_) (fun _ _ _ _ _ _ us hl => match us, hl with | [_], _ => rfl) (fun ds O rk h => ?_)
  · obtain ⟨a_cell, hp, rfl, rfl⟩ := h; rfl
  · obtain ⟨a_cell, hp, rfl, rfl⟩ := h; exact ⟨_, _, _, _, b_L_names A O a_cell, rfl⟩
def N_L_hour : List Str := ["_law_number", "_law_kind"]
def C_L_hour : Sc := ⟨0, N_L_hour, defScope (top 29), true, true⟩
instance : Calm C_L_hour := ⟨rfl⟩
theorem V_L_hour_0 : Var C_L_hour 0 "_law_number" := var_of (by decide +kernel)
theorem V_L_hour_1 : Var C_L_hour 1 "_law_kind" := var_of (by decide +kernel)
theorem S_L_hour_1 : Loca C_L_hour 1 "_law_kind" := loc_of (by decide +kernel)
theorem b_L_hour {G : Cfg} (A : All G) (O : Own) (a_number : Int) : SS G C_L_hour (defBody (top 29)) (frame0 N_L_hour [dI a_number]) O (fnV dI O) (.rt (m_L_hour a_number)) := by
  unfold m_L_hour
  refine ss_asg (f := dI) .rt S_L_hour_1 (fun _ => rfl) (e_mod (e_var V_L_hour_0 rfl) e_int (by trivial)) ?_
  intro kind_1 hkind_1
  refine ss_when .rt (t_cmp c_eqI (e_var V_L_hour_1 rfl) e_int rfl) (fun _ => nofun) (fun hc_2 => ?_) (fun hc_2 => ?_)
  ·
    exact ss_ret (e_sub (e_powC 1000000000000000000 e_int e_int (by decide +kernel)) (e_mod (e_divS (e_var V_L_hour_0 rfl) e_int (by trivial)) e_int (by trivial))) (fun _ _ _ h => h)
  refine ss_when .rt (t_cmp c_eqI (e_var V_L_hour_1 rfl) e_int rfl) (fun _ => nofun) (fun hc_3 => ?_) (fun hc_3 => ?_)
  ·
    exact ss_ret (e_mod (e_divS (e_var V_L_hour_0 rfl) e_int (by trivial)) (e_add (e_powC 1000000000000000000 e_int e_int (by decide +kernel)) e_int) (by trivial)) (fun _ _ _ h => h)
  exact ss_ret (e_mod (e_divS (e_var V_L_hour_0 rfl) e_int (by trivial)) e_int (by trivial)) (fun _ _ _ h => h)
theorem k_L_hour {G : Cfg} (A : All G) : Callee G 1 "_law_hour" (sp_L_hour G) := by
  refine A.d_L_hour.callee (N := N_L_hour) (ps := ["_law_number"]) (scope_of rfl rfl rfl (by decide +kernel)) (fun ds O rk h => ?_) (fun _ _ _ _ _ _ us hl => match us, hl with | [_], _ => rfl) (fun ds O rk h => ?_)
  · obtain ⟨a_number, hp, rfl, rfl⟩ := h; rfl
  · obtain ⟨a_number, hp, rfl, rfl⟩ := h; exact ⟨_, _, _, _, b_L_hour A O a_number, rfl⟩
def N_L_tale : List Str := ["_law_number", "_law_names_here", "_law_k"]
def C_L_tale : Sc := ⟨0, N_L_tale, defScope (top 30), true, true⟩
instance : Calm C_L_tale := ⟨rfl⟩
theorem nd_L_tale : C_L_tale.N.Nodup := by decide +kernel
theorem V_L_tale_0 : Var C_L_tale 0 "_law_number" := var_of (by decide +kernel)
theorem G_L_tale_range : Glo C_L_tale "range" := glo_of (by decide +kernel)
theorem G_L_tale_tuple : Glo C_L_tale "tuple" := glo_of (by decide +kernel)
theorem b_L_tale {G : Cfg} (A : All G) (O : Own) (a_number : Int) (a_names_here : (List Str)) (hpre : a_names_here.length = 24) : SS G C_L_tale (defBody (top 30)) (frame0 N_L_tale [dI a_number, (dLo G.K dS) a_names_here]) O (fnV (dVt G.K dS) O) (.rt (m_L_tale a_number a_names_here)) := by
  unfold m_L_tale
  exact ss_ret (e_callT k_tupL G_L_tale_tuple A.b_tuple bt_tuple (a_cons (en_lst (en_lc (own := [("_law_k", 2)]) (df := dI) (dg := dS) (xs := (upto ((1 : Int) + (a_number % (6 : Int))))) (g := fun e_1 => (nth a_names_here ((a_number / (((3 : Int) * e_1) + (7 : Int))) % (24 : Int)))) nd_L_tale (ei_range G_L_tale_range A.b_range (e_add e_int (e_mod (e_var V_L_tale_0 rfl) e_int (by trivial))) (by first | omega | trivial) (fun _ => rfl)) (fun _ _ => trivial) (blkOk_by (by decide +kernel)) (fun e_1 => (tj_name (loc_of (i := 2) (by decide +kernel)))) (by decide) (fun e_1 hm_2 q_ _ => by have := mem_upto hm_2; exact (e_nthL (f := dS) (xs := a_names_here) (e_var (var_of (i := 1) (by decide +kernel)) rfl) (e_mod (e_divS (e_var (var_of (i := 0) (by decide +kernel)) rfl) (e_add (e_mulL e_int (e_var (var_of (i := 2) (by decide +kernel)) rfl) (by trivial)) e_int) (by trivial)) e_int (by trivial)) (by trivial) (fun _ _ => rfl))) (by trivial) (fun _ _ => rfl))) a_nil (fun _ => rfl)) (fun _ => rfl)) (fun _ _ _ h => h)
theorem k_L_tale {G : Cfg} (A : All G) : Callee G 1 "_law_tale" (sp_L_tale G) := by
  refine A.d_L_tale.callee (N := N_L_tale) (ps := ["_law_number", "_law_names_here"]) (scope_of rfl rfl rfl (by decide +kernel)) (fun ds O rk h => ?_) (fun _ _ _ _ _ _ us hl => match us, hl with | [_, _], _ => rfl) (fun ds O rk h => ?_)
  · obtain ⟨a_number, a_names_here, hp, rfl, rfl⟩ := h; rfl
  · obtain ⟨a_number, a_names_here, hp, rfl, rfl⟩ := h; exact ⟨_, _, _, _, b_L_tale A O a_number a_names_here hp, rfl⟩
def N_L_talk : List Str := ["_law_number", "_law_persons", "_law_one", "_law_other"]
def C_L_talk : Sc := ⟨1, N_L_talk, defScope (top 31), true, true⟩
instance : Calm C_L_talk := ⟨rfl⟩
theorem V_L_talk_0 : Var C_L_talk 0 "_law_number" := var_of (by decide +kernel)
theorem V_L_talk_1 : Var C_L_talk 1 "_law_persons" := var_of (by decide +kernel)
theorem V_L_talk_2 : Var C_L_talk 2 "_law_one" := var_of (by decide +kernel)
theorem V_L_talk_3 : Var C_L_talk 3 "_law_other" := var_of (by decide +kernel)
theorem S_L_talk_2 : Loca C_L_talk 2 "_law_one" := loc_of (by decide +kernel)
theorem S_L_talk_3 : Loca C_L_talk 3 "_law_other" := loc_of (by decide +kernel)
theorem G_L_talk__law_hour : Glo C_L_talk "_law_hour" := glo_of (by decide +kernel)
theorem G_L_talk_len : Glo C_L_talk "len" := glo_of (by decide +kernel)
theorem b_L_talk {G : Cfg} (A : All G) (O : Own) (a_number : Int) (a_persons : (List Str)) (hpre : 1 < a_persons.length) : SS G C_L_talk (defBody (top 31)) (frame0 N_L_talk [dI a_number, (dLo G.K dS) a_persons]) O (fnV (dT4 G.K dI dS dS dS) O) (.rt (m_L_talk a_number a_persons)) := by
  unfold m_L_talk
  refine ss_asg (f := dI) .rt S_L_talk_2 (fun _ => rfl) (e_mod (e_var V_L_talk_0 rfl) (e_callB (k_lenLo (xs := a_persons) (f := dS)) G_L_talk_len A.b_len bt_len (a_cons (e_var V_L_talk_1 rfl) a_nil (fun _ => rfl)) (fun _ => rfl)) (by trivial)) ?_
  intro one_1 hone_1
  have hr_one_1 : 0 ≤ one_1 ∧ one_1 < (a_persons.length : Int) := by rw [hone_1]; exact ⟨Int.emod_nonneg _ (by omega), Int.emod_lt_of_pos _ (by omega)⟩
  refine ss_asg (f := dI) .rt S_L_talk_3 (fun _ => rfl) (e_mod (e_add (e_add (e_var V_L_talk_2 rfl) e_int) (e_mod (e_divS (e_var V_L_talk_0 rfl) e_int (by trivial)) (e_sub (e_callB (k_lenLo (xs := a_persons) (f := dS)) G_L_talk_len A.b_len bt_len (a_cons (e_var V_L_talk_1 rfl) a_nil (fun _ => rfl)) (fun _ => rfl)) e_int) (by trivial))) (e_callB (k_lenLo (xs := a_persons) (f := dS)) G_L_talk_len A.b_len bt_len (a_cons (e_var V_L_talk_1 rfl) a_nil (fun _ => rfl)) (fun _ => rfl)) (by trivial)) ?_
  intro other_2 hother_2
  have hr_other_2 : 0 ≤ other_2 ∧ other_2 < (a_persons.length : Int) := by rw [hother_2]; exact ⟨Int.emod_nonneg _ (by omega), Int.emod_lt_of_pos _ (by omega)⟩
  exact ss_ret (e_tup (a_cons (e_call (k_L_hour A) (by decide) G_L_talk__law_hour ⟨(a_number / (600 : Int)), True.intro, rfl, rfl⟩ (a_cons (e_divS (e_var V_L_talk_0 rfl) e_int (by trivial)) a_nil (fun _ => rfl)) (fun _ => rfl)) (a_cons (e_nthL (f := dS) (xs := a_persons) (e_var V_L_talk_1 rfl) (e_var V_L_talk_2 rfl) (by trivial) (fun _ _ => rfl)) (a_cons (e_nthL (f := dS) (xs := a_persons) (e_var V_L_talk_1 rfl) (e_var V_L_talk_3 rfl) (by trivial) (fun _ _ => rfl)) (a_cons (e_nthL (f := dS) (xs := [("both" : Str), ("both" : Str), ("one" : Str)]) (en_lst (en_list (ds := [dS ("both" : Str), dS ("both" : Str), dS ("one" : Str)]) (a_cons e_str (a_cons e_str (a_cons e_str a_nil (fun _ => rfl)) (fun _ => rfl)) (fun _ => rfl)) (Nat.le_of_ble_eq_true rfl))) (e_mod (e_divS (e_var V_L_talk_0 rfl) e_int (by trivial)) e_int (by trivial)) (inR_len (m := 3) rfl (by trivial)) (fun _ _ => rfl)) a_nil (fun _ => rfl)) (fun _ => rfl)) (fun _ => rfl)) (fun _ => rfl)) (Nat.le_of_ble_eq_true rfl)) (fun _ _ _ h => h)
theorem k_L_talk {G : Cfg} (A : All G) : Callee G 2 "_law_talk" (sp_L_talk G) := by
  refine A.d_L_talk.callee (N := N_L_talk) (ps := ["_law_number", "_law_persons"]) (scope_of rfl rfl rfl (by decide +kernel)) (fun ds O rk h => ?_) (fun _ _ _ _ _ _ us hl => match us, hl with | [_, _], _ => rfl) (fun ds O rk h => ?_)
  · obtain ⟨a_number, a_persons, hp, rfl, rfl⟩ := h; rfl
  · obtain ⟨a_number, a_persons, hp, rfl, rfl⟩ := h; exact ⟨_, _, _, _, b_L_talk A O a_number a_persons hp, rfl⟩
def N_L_saying : List Str := ["_law_number", "_law_persons", "_law_person", "_law_kind", "_law_hour_here", "_law_end"]
def C_L_saying : Sc := ⟨1, N_L_saying, defScope (top 32), true, true⟩
instance : Calm C_L_saying := ⟨rfl⟩
theorem V_L_saying_0 : Var C_L_saying 0 "_law_number" := var_of (by decide +kernel)
theorem V_L_saying_1 : Var C_L_saying 1 "_law_persons" := var_of (by decide +kernel)
theorem V_L_saying_2 : Var C_L_saying 2 "_law_person" := var_of (by decide +kernel)
theorem V_L_saying_3 : Var C_L_saying 3 "_law_kind" := var_of (by decide +kernel)
theorem V_L_saying_4 : Var C_L_saying 4 "_law_hour_here" := var_of (by decide +kernel)
theorem V_L_saying_5 : Var C_L_saying 5 "_law_end" := var_of (by decide +kernel)
theorem S_L_saying_2 : Loca C_L_saying 2 "_law_person" := loc_of (by decide +kernel)
theorem S_L_saying_3 : Loca C_L_saying 3 "_law_kind" := loc_of (by decide +kernel)
theorem S_L_saying_4 : Loca C_L_saying 4 "_law_hour_here" := loc_of (by decide +kernel)
theorem S_L_saying_5 : Loca C_L_saying 5 "_law_end" := loc_of (by decide +kernel)
theorem G_L_saying__law_hour : Glo C_L_saying "_law_hour" := glo_of (by decide +kernel)
theorem G_L_saying_int : Glo C_L_saying "int" := glo_of (by decide +kernel)
theorem G_L_saying_len : Glo C_L_saying "len" := glo_of (by decide +kernel)
theorem G_L_saying_max : Glo C_L_saying "max" := glo_of (by decide +kernel)
theorem G_L_saying_min : Glo C_L_saying "min" := glo_of (by decide +kernel)
theorem b_L_saying {G : Cfg} (A : All G) (O : Own) (a_number : Int) (a_persons : (List Str)) (hpre : 1 ≤ a_persons.length) : SS G C_L_saying (defBody (top 32)) (frame0 N_L_saying [dI a_number, (dLo G.K dS) a_persons]) O (fnV (dSy G.K) O) (.rt (m_L_saying a_number a_persons)) := by
  unfold m_L_saying
  refine ss_asg (f := dS) .rt S_L_saying_2 (fun _ => rfl) (e_nthL (f := dS) (xs := a_persons) (e_var V_L_saying_1 rfl) (e_mod (e_var V_L_saying_0 rfl) (e_callB (k_lenLo (xs := a_persons) (f := dS)) G_L_saying_len A.b_len bt_len (a_cons (e_var V_L_saying_1 rfl) a_nil (fun _ => rfl)) (fun _ => rfl)) (by trivial)) (by trivial) (fun _ _ => rfl)) ?_
  intro person_1 hperson_1
  refine ss_asg (f := dI) .rt S_L_saying_3 (fun _ => rfl) (e_mod (e_divS (e_var V_L_saying_0 rfl) e_int (by trivial)) e_int (by trivial)) ?_
  intro kind_2 hkind_2
  refine ss_asg (f := dI) .rt S_L_saying_4 (fun _ => rfl) (e_call (k_L_hour A) (by decide) G_L_saying__law_hour ⟨(a_number / (120 : Int)), True.intro, rfl, rfl⟩ (a_cons (e_divS (e_var V_L_saying_0 rfl) e_int (by trivial)) a_nil (fun _ => rfl)) (fun _ => rfl)) ?_
  intro hour_here_3 hhour_here_3
  refine ss_when .rt (t_cmp c_eqI (e_var V_L_saying_3 rfl) e_int rfl) (fun _ => nofun) (fun hc_4 => ?_) (fun hc_4 => ?_)
  ·
    exact ss_ret (e_tup (ds := (Sy.knew person_1 hour_here_3).ds) (a_cons e_str (a_cons (e_var V_L_saying_2 rfl) (a_cons (e_var V_L_saying_4 rfl) a_nil (fun _ => rfl)) (fun _ => rfl)) (fun _ => rfl)) (Nat.le_of_ble_eq_true rfl)) (fun _ _ _ h => h)
  refine ss_when .rt (t_cmp c_eqI (e_var V_L_saying_3 rfl) e_int rfl) (fun _ => nofun) (fun hc_5 => ?_) (fun hc_5 => ?_)
  ·
    exact ss_ret (e_tup (ds := (Sy.unheard person_1 (nth ([(some hour_here_3), (none : (Option Int))]) (bi (decide (((a_number / (7 : Int)) % (9 : Int)) = (1 : Int)))))).ds) (a_cons e_str (a_cons (e_var V_L_saying_2 rfl) (a_cons (e_nthL (f := (dO dI)) (xs := [(some hour_here_3), (none : (Option Int))]) (en_lst (en_list (ds := [(dO dI) (some hour_here_3), (dO dI) (none : (Option Int))]) (a_cons (e_var V_L_saying_4 rfl) (a_cons e_none a_nil (fun _ => rfl)) (fun _ => rfl)) (Nat.le_of_ble_eq_true rfl))) (e_callT k_intB2 G_L_saying_int A.b_int bt_int (a_cons (e_cmp c_eqI (e_mod (e_divS (e_var V_L_saying_0 rfl) e_int (by trivial)) e_int (by trivial)) e_int rfl) a_nil (fun _ => rfl)) (fun _ => rfl)) (inR_len (m := 2) rfl (by trivial)) (fun _ _ => rfl)) a_nil (fun _ => rfl)) (fun _ => rfl)) (fun _ => rfl)) (Nat.le_of_ble_eq_true rfl)) (fun _ _ _ h => h)
  refine ss_when .rt (t_cmp c_eqI (e_var V_L_saying_3 rfl) e_int rfl) (fun _ => nofun) (fun hc_6 => ?_) (fun hc_6 => ?_)
  ·
    refine ss_asg (f := dI) .rt S_L_saying_5 (fun _ => rfl) (e_call (k_L_hour A) (by decide) G_L_saying__law_hour ⟨(a_number / (1000 : Int)), True.intro, rfl, rfl⟩ (a_cons (e_divS (e_var V_L_saying_0 rfl) e_int (by trivial)) a_nil (fun _ => rfl)) (fun _ => rfl)) ?_
    intro end_7 hend_7
    exact ss_ret (e_tup (ds := (Sy.silent person_1 (imin hour_here_3 end_7) (imax hour_here_3 end_7)).ds) (a_cons e_str (a_cons (e_var V_L_saying_2 rfl) (a_cons (e_callB k_min2 G_L_saying_min A.b_min bt_min (a_cons (e_var V_L_saying_4 rfl) (a_cons (e_var V_L_saying_5 rfl) a_nil (fun _ => rfl)) (fun _ => rfl)) (fun _ => rfl)) (a_cons (e_callB k_max2 G_L_saying_max A.b_max bt_max (a_cons (e_var V_L_saying_4 rfl) (a_cons (e_var V_L_saying_5 rfl) a_nil (fun _ => rfl)) (fun _ => rfl)) (fun _ => rfl)) a_nil (fun _ => rfl)) (fun _ => rfl)) (fun _ => rfl)) (fun _ => rfl)) (Nat.le_of_ble_eq_true rfl)) (fun _ _ _ h => h)
  refine ss_when .rt (t_w (w_and (t_cmp c_eqI (e_var V_L_saying_3 rfl) e_int rfl) (fun hb_8 => (w_and1 (t_cmp c_gt (e_callB (k_lenLo (xs := a_persons) (f := dS)) G_L_saying_len A.b_len bt_len (a_cons (e_var V_L_saying_1 rfl) a_nil (fun _ => rfl)) (fun _ => rfl)) e_int rfl))))) (fun _ => nofun) (fun hc_10 => ?_) (fun hc_10 => ?_)
  ·
    exact ss_ret (e_tup (ds := (Sy.barred person_1 (nth a_persons (((a_number + (1 : Int)) + ((a_number / (120 : Int)) % ((a_persons.length : Int) - (1 : Int)))) % (a_persons.length : Int)))).ds) (a_cons e_str (a_cons (e_var V_L_saying_2 rfl) (a_cons (e_nthL (f := dS) (xs := a_persons) (e_var V_L_saying_1 rfl) (e_mod (e_add (e_add (e_var V_L_saying_0 rfl) e_int) (e_mod (e_divS (e_var V_L_saying_0 rfl) e_int (by trivial)) (e_sub (e_callB (k_lenLo (xs := a_persons) (f := dS)) G_L_saying_len A.b_len bt_len (a_cons (e_var V_L_saying_1 rfl) a_nil (fun _ => rfl)) (fun _ => rfl)) e_int) (by trivial))) (e_callB (k_lenLo (xs := a_persons) (f := dS)) G_L_saying_len A.b_len bt_len (a_cons (e_var V_L_saying_1 rfl) a_nil (fun _ => rfl)) (fun _ => rfl)) (by trivial)) (by trivial) (fun _ _ => rfl)) a_nil (fun _ => rfl)) (fun _ => rfl)) (fun _ => rfl)) (Nat.le_of_ble_eq_true rfl)) (fun _ _ _ h => h)
  exact ss_ret (e_tup (ds := (Sy.unheard person_1 (some (hour_here_3 / (4 : Int)))).ds) (a_cons e_str (a_cons (e_var V_L_saying_2 rfl) (a_cons (e_divS (e_var V_L_saying_4 rfl) e_int (by trivial)) a_nil (fun _ => rfl)) (fun _ => rfl)) (fun _ => rfl)) (Nat.le_of_ble_eq_true rfl)) (fun _ _ _ h => h)
theorem k_L_saying {G : Cfg} (A : All G) : Callee G 2 "_law_saying" (sp_L_saying G) := by
  refine A.d_L_saying.callee (N := N_L_saying) (ps := ["_law_number", "_law_persons"]) (scope_of rfl rfl rfl (by decide +kernel)) (fun ds O rk h => ?_) (fun _ _ _ _ _ _ us hl => match us, hl with | [_, _], _ => rfl) (fun ds O rk h => ?_)
  · obtain ⟨a_number, a_persons, hp, rfl, rfl⟩ := h; rfl
  · obtain ⟨a_number, a_persons, hp, rfl, rfl⟩ := h; exact ⟨_, _, _, _, b_L_saying A O a_number a_persons hp, rfl⟩
def N_L_book : List Str := ["_law_script", "_law_most", "_law_cells", "_law_names_here", "_law_persons", "_law_sights", "_law_talks", "_law_sayings", "_law_k", "_law_cell", "_law_number", "_law_kind", "_law_person"]
def C_L_book : Sc := ⟨2, N_L_book, defScope (top 33), true, true⟩
instance : Calm C_L_book := ⟨rfl⟩
theorem V_L_book_0 : Var C_L_book 0 "_law_script" := var_of (by decide +kernel)
theorem V_L_book_1 : Var C_L_book 1 "_law_most" := var_of (by decide +kernel)
theorem V_L_book_2 : Var C_L_book 2 "_law_cells" := var_of (by decide +kernel)
theorem V_L_book_3 : Var C_L_book 3 "_law_names_here" := var_of (by decide +kernel)
theorem V_L_book_4 : Var C_L_book 4 "_law_persons" := var_of (by decide +kernel)
theorem V_L_book_5 : Var C_L_book 5 "_law_sights" := var_of (by decide +kernel)
theorem V_L_book_6 : Var C_L_book 6 "_law_talks" := var_of (by decide +kernel)
theorem V_L_book_7 : Var C_L_book 7 "_law_sayings" := var_of (by decide +kernel)
theorem V_L_book_8 : Var C_L_book 8 "_law_k" := var_of (by decide +kernel)
theorem V_L_book_9 : Var C_L_book 9 "_law_cell" := var_of (by decide +kernel)
theorem V_L_book_10 : Var C_L_book 10 "_law_number" := var_of (by decide +kernel)
theorem V_L_book_11 : Var C_L_book 11 "_law_kind" := var_of (by decide +kernel)
theorem V_L_book_12 : Var C_L_book 12 "_law_person" := var_of (by decide +kernel)
theorem S_L_book_2 : Loca C_L_book 2 "_law_cells" := loc_of (by decide +kernel)
theorem S_L_book_3 : Loca C_L_book 3 "_law_names_here" := loc_of (by decide +kernel)
theorem S_L_book_4 : Loca C_L_book 4 "_law_persons" := loc_of (by decide +kernel)
theorem S_L_book_5 : Loca C_L_book 5 "_law_sights" := loc_of (by decide +kernel)
theorem S_L_book_6 : Loca C_L_book 6 "_law_talks" := loc_of (by decide +kernel)
theorem S_L_book_7 : Loca C_L_book 7 "_law_sayings" := loc_of (by decide +kernel)
theorem S_L_book_8 : Loca C_L_book 8 "_law_k" := loc_of (by decide +kernel)
theorem S_L_book_9 : Loca C_L_book 9 "_law_cell" := loc_of (by decide +kernel)
theorem S_L_book_10 : Loca C_L_book 10 "_law_number" := loc_of (by decide +kernel)
theorem S_L_book_11 : Loca C_L_book 11 "_law_kind" := loc_of (by decide +kernel)
theorem S_L_book_12 : Loca C_L_book 12 "_law_person" := loc_of (by decide +kernel)
theorem G_L_book__law_hour : Glo C_L_book "_law_hour" := glo_of (by decide +kernel)
theorem G_L_book__law_names : Glo C_L_book "_law_names" := glo_of (by decide +kernel)
theorem G_L_book__law_saying : Glo C_L_book "_law_saying" := glo_of (by decide +kernel)
theorem G_L_book__law_tale : Glo C_L_book "_law_tale" := glo_of (by decide +kernel)
theorem G_L_book__law_talk : Glo C_L_book "_law_talk" := glo_of (by decide +kernel)
theorem G_L_book_enumerate : Glo C_L_book "enumerate" := glo_of (by decide +kernel)
theorem G_L_book_len : Glo C_L_book "len" := glo_of (by decide +kernel)
theorem b_L_book {G : Cfg} (A : All G) (O : Own) (a_script : (List Int)) (a_most : Int) (hpre : a_script.length ≤ 63 ∧ 1 ≤ a_most) : SS G C_L_book (defBody (top 33)) (frame0 N_L_book [(dLo G.K dI) a_script, dI a_most]) O (fnV (fun x : ((List Str) × (List (Str × Int × (List Str))) × (List (Int × Str × Str × Str)) × (List Sy)) => dLst G.K [(dLo G.K dS) x.1, (dLo G.K (dT3 G.K dS dI (dVt G.K dS))) x.2.1, (dLo G.K (dT4 G.K dI dS dS dS)) x.2.2.1, (dLo G.K (dSy G.K)) x.2.2.2]) O) (.rt (m_L_book a_script a_most)) := by
  unfold m_L_book
  refine ss_asg (f := (dLo G.K dI)) .rt S_L_book_2 (fun _ => rfl) (en_lst (en_cat (f := dI) (xs := a_script) (ys := [(0 : Int), (0 : Int), (0 : Int)]) (e_var V_L_book_0 rfl) (en_lst (en_list (ds := [dI (0 : Int), dI (0 : Int), dI (0 : Int)]) (a_cons e_int (a_cons e_int (a_cons e_int a_nil (fun _ => rfl)) (fun _ => rfl)) (fun _ => rfl)) (Nat.le_of_ble_eq_true rfl))) (by trivial))) ?_
  intro cells_1 hcells_1
  have hl_cells_1 : cells_1.length = a_script.length + 3 := by rw [hcells_1, List.length_append]; rfl
  refine ss_asg (f := (dLo G.K dS)) .rt S_L_book_3 (fun _ => rfl) (e_call (k_L_names A) (by decide) G_L_book__law_names ⟨(nth cells_1 (0 : Int)), True.intro, rfl, rfl⟩ (a_cons (e_nthL (f := dI) (xs := cells_1) (e_var V_L_book_2 rfl) e_int (by trivial) (fun _ _ => rfl)) a_nil (fun _ => rfl)) (fun _ => rfl)) ?_
  intro names_here_2 hnames_here_2
  have hl_names_here_2 : names_here_2.length = 24 := by rw [hnames_here_2]; exact names_len _
  have := @cut_len _ names_here_2 (some ((nth cells_1 (2 : Int)) % (5 : Int))) none
  have := @cut_len _ (cut names_here_2 (some ((nth cells_1 (2 : Int)) % (5 : Int))) none) none (some ((1 : Int) + ((nth cells_1 (1 : Int)) % a_most)))
  refine ss_asg (f := (dLo G.K dS)) .rt S_L_book_4 (fun _ => rfl) (en_lst (en_cut (f := dS) (xs := (cut names_here_2 (some ((nth cells_1 (2 : Int)) % (5 : Int))) none)) (en_lst (en_cut (f := dS) (xs := names_here_2) (e_var V_L_book_3 rfl) (eo_some (e_mod (e_nthL (f := dI) (xs := cells_1) (e_var V_L_book_2 rfl) e_int (by trivial) (fun _ _ => rfl)) e_int (by trivial))) eo_none)) eo_none (eo_some (e_add e_int (e_mod (e_nthL (f := dI) (xs := cells_1) (e_var V_L_book_2 rfl) e_int (by trivial) (fun _ _ => rfl)) (e_var V_L_book_1 rfl) (by trivial)))))) ?_
  intro persons_3 hpersons_3
  have hl_persons_3 : 1 ≤ persons_3.length := by rw [hpersons_3]; exact persons_pos (by omega) (by omega) hpre.2
  refine ss_new (od := oLst (([] : List (Str × Int × (List Str))).map (dT3 G.K dS dI (dVt G.K dS)))) S_L_book_5 (fun _ => rfl) (en_list (ds := []) a_nil (Nat.le_of_ble_eq_true rfl)) ?_
  intro p_sights_4
  refine ss_new (od := oLst (([] : List (Int × Str × Str × Str)).map (dT4 G.K dI dS dS dS))) S_L_book_6 (fun _ => rfl) (en_list (ds := []) a_nil (Nat.le_of_ble_eq_true rfl)) ?_
  intro p_talks_6
  refine ss_new (od := oLst (([] : List Sy).map (dSy G.K))) S_L_book_7 (fun _ => rfl) (en_list (ds := []) a_nil (Nat.le_of_ble_eq_true rfl)) ?_
  intro p_sayings_8
  have := @cut_len _ a_script (some (3 : Int)) (some (63 : Int))
  refine ss_fold (Γ := [some ((dLo G.K dI) a_script), some (dI a_most), some ((dLo G.K dI) cells_1), some ((dLo G.K dS) names_here_2), some ((dLo G.K dS) persons_3), some (dP p_sights_4), some (dP p_talks_6), some (dP p_sayings_8), none, none, none, none, none]) (df := (dT2 G.K dI dI)) (s0 := (([] : List (Str × Int × (List Str))), ([] : List (Int × Str × Str × Str)), ([] : List Sy))) .rt (fun s_10 : (List (Str × Int × (List Str))) × (List (Int × Str × Str × Str)) × (List Sy) => [some ((dLo G.K dI) a_script), some (dI a_most), some ((dLo G.K dI) cells_1), some ((dLo G.K dS) names_here_2), some ((dLo G.K dS) persons_3), some (dP p_sights_4), some (dP p_talks_6), some (dP p_sayings_8), none, none, none, none, none]) (fun (s_10 : (List (Str × Int × (List Str))) × (List (Int × Str × Str × Str)) × (List Sy)) (x_11 : (Int × Int)) => (([some ((dLo G.K dI) a_script), some (dI a_most), some ((dLo G.K dI) cells_1), some ((dLo G.K dS) names_here_2), some ((dLo G.K dS) persons_3), some (dP p_sights_4), some (dP p_talks_6), some (dP p_sayings_8), none, none, none, none, none]).set 8 (some (dI x_11.1))).set 9 (some (dI x_11.2))) (fun s_10 : (List (Str × Int × (List Str))) × (List (Int × Str × Str × Str)) × (List Sy) => ((p_sayings_8, oLst (s_10.2.2.map (dSy G.K))) :: (p_talks_6, oLst (s_10.2.1.map (dT4 G.K dI dS dS dS))) :: (p_sights_4, oLst (s_10.1.map (dT3 G.K dS dI (dVt G.K dS)))) :: O)) (ei_enum (f := dI) (xs := (cut a_script (some (3 : Int)) (some (63 : Int)))) G_L_book_enumerate A.b_enumerate (en_lst (en_cut (f := dI) (xs := a_script) (e_var V_L_book_0 rfl) (eo_some e_int) (eo_some e_int))) (fun _ => rfl)) (by exact ⟨.inr rfl, .inr rfl, .inr rfl, .inr rfl, .inr rfl, .inr rfl, .inr rfl, .inr rfl, .inl rfl, .inl rfl, .inl rfl, .inl rfl, .inl rfl, trivial⟩) rfl (fun _ => trivial) (fun s_10 x_11 => (tj_tup (tjs_cons (tj_name S_L_book_8) (tjs_cons (tj_name S_L_book_9) tjs_nil (fun _ => rfl)) (fun _ => rfl)) (fun _ => rfl) (fun _ => rfl))) ?_ ?_ (fun _ _ => rfl)
  ·
    intro s_10 x_11 pre_12 post_13 hs_14 hf_15
    have hm_16 : x_11 ∈ (enumL (cut a_script (some (3 : Int)) (some (63 : Int)))) := by rw [hs_14]; simp
    have := mem_enum hm_16
    have hpl_17 : pre_12.length < ((enumL (cut a_script (some (3 : Int)) (some (63 : Int))))).length := by rw [hs_14, List.length_append, List.length_cons]; omega
    rw [enumL_len] at hpl_17
    have hgrow_18 : (s_10.1).length ≤ (([] : List (Str × Int × (List Str)))).length + 1 * pre_12.length := by
      rw [hf_15]
      refine foldl_meas (m := fun s_10 : (List (Str × Int × (List Str))) × (List (Int × Str × Str × Str)) × (List Sy) => (s_10.1).length) ?_ (s0 := (([] : List (Str × Int × (List Str))), ([] : List (Int × Str × Str × Str)), ([] : List Sy)))
      intro _ _
      first | exact app_le | exact putIf_len | (simp only [lt]; exact dPut_len) | (simp only [lt]; split <;> first | exact dPut_len | omega) | ((try simp only [lt]); (repeat' split) <;> first | exact dPut_len | exact Nat.le_succ _) | (simp only [lt, slen_app, signAt_len, List.length_append, List.length_cons, List.length_nil]; omega) | ((try simp only [lt]); (repeat' split) <;> ((try simp only [lt, slen_app, signAt_len, List.length_append, List.length_cons, List.length_nil]); omega))
    have hgrow_19 : (s_10.2.1).length ≤ (([] : List (Int × Str × Str × Str))).length + 1 * pre_12.length := by
      rw [hf_15]
      refine foldl_meas (m := fun s_10 : (List (Str × Int × (List Str))) × (List (Int × Str × Str × Str)) × (List Sy) => (s_10.2.1).length) ?_ (s0 := (([] : List (Str × Int × (List Str))), ([] : List (Int × Str × Str × Str)), ([] : List Sy)))
      intro _ _
      first | exact app_le | exact putIf_len | (simp only [lt]; exact dPut_len) | (simp only [lt]; split <;> first | exact dPut_len | omega) | ((try simp only [lt]); (repeat' split) <;> first | exact dPut_len | exact Nat.le_succ _) | (simp only [lt, slen_app, signAt_len, List.length_append, List.length_cons, List.length_nil]; omega) | ((try simp only [lt]); (repeat' split) <;> ((try simp only [lt, slen_app, signAt_len, List.length_append, List.length_cons, List.length_nil]); omega))
    have hgrow_20 : (s_10.2.2).length ≤ (([] : List Sy)).length + 1 * pre_12.length := by
      rw [hf_15]
      refine foldl_meas (m := fun s_10 : (List (Str × Int × (List Str))) × (List (Int × Str × Str × Str)) × (List Sy) => (s_10.2.2).length) ?_ (s0 := (([] : List (Str × Int × (List Str))), ([] : List (Int × Str × Str × Str)), ([] : List Sy)))
      intro _ _
      first | exact app_le | exact putIf_len | (simp only [lt]; exact dPut_len) | (simp only [lt]; split <;> first | exact dPut_len | omega) | ((try simp only [lt]); (repeat' split) <;> first | exact dPut_len | exact Nat.le_succ _) | (simp only [lt, slen_app, signAt_len, List.length_append, List.length_cons, List.length_nil]; omega) | ((try simp only [lt]); (repeat' split) <;> ((try simp only [lt, slen_app, signAt_len, List.length_append, List.length_cons, List.length_nil]); omega))
    refine ss_asg (f := dI) .nx S_L_book_10 (fun _ => rfl) (e_mod (e_mulR (e_add (e_mod (e_var V_L_book_9 rfl) (e_powC 10000000000000000000000000000000000000000 e_int e_int (by decide +kernel)) (by trivial)) (e_mulR (e_mulL e_int (e_var V_L_book_8 rfl) (by trivial)) (e_var V_L_book_8 rfl) (by trivial))) e_int (by trivial)) (e_add (e_powC 100000000000000000000000000000000000000000 e_int e_int (by decide +kernel)) e_int) (by trivial)) ?_
    intro number_21 hnumber_21
    refine ss_asg (f := dI) .nx S_L_book_11 (fun _ => rfl) (e_mod (e_var V_L_book_10 rfl) e_int (by trivial)) ?_
    intro kind_22 hkind_22
    refine ss_if .nx (t_w (w_and (t_cmp c_lt (e_var V_L_book_11 rfl) e_int rfl) (fun hb_23 => (w_and1 (t_cmp c_lt (e_callB (k_lenOo (xs := s_10.1) (f := (dT3 G.K dS dI (dVt G.K dS))) (k := 2) rfl) G_L_book_len A.b_len bt_len (a_cons (e_var V_L_book_5 rfl) a_nil (fun _ => rfl)) (fun _ => rfl)) e_int rfl))))) (fun hc_25 => ?_) (fun hc_25 => ?_)
    ·
      refine ss_asg (f := dS) .nx S_L_book_12 (fun _ => rfl) (e_nthL (f := dS) (xs := persons_3) (e_var V_L_book_4 rfl) (e_mod (e_divS (e_var V_L_book_10 rfl) e_int (by trivial)) (e_callB (k_lenLo (xs := persons_3) (f := dS)) G_L_book_len A.b_len bt_len (a_cons (e_var V_L_book_4 rfl) a_nil (fun _ => rfl)) (fun _ => rfl)) (by trivial)) (by trivial) (fun _ _ => rfl)) ?_
      intro person_26 hperson_26
      refine ss_app (f := (dT3 G.K dS dI (dVt G.K dS))) (xs := s_10.1) (y := (person_26, (m_L_hour (number_21 / (200 : Int))), (m_L_tale ((number_21 / (8 : Int)) % (1000000000 : Int)) names_here_2))) (n := 2) .nx rfl (e_var V_L_book_5 rfl) (e_tup (a_cons (e_var V_L_book_12 rfl) (a_cons (e_call (k_L_hour A) (by decide) G_L_book__law_hour ⟨(number_21 / (200 : Int)), True.intro, rfl, rfl⟩ (a_cons (e_divS (e_var V_L_book_10 rfl) e_int (by trivial)) a_nil (fun _ => rfl)) (fun _ => rfl)) (a_cons (e_call (k_L_tale A) (by decide) G_L_book__law_tale ⟨((number_21 / (8 : Int)) % (1000000000 : Int)), names_here_2, (by trivial), rfl, rfl⟩ (a_cons (e_mod (e_divS (e_var V_L_book_10 rfl) e_int (by trivial)) (e_powC 1000000000 e_int e_int (by decide +kernel)) (by trivial)) (a_cons (e_var V_L_book_3 rfl) a_nil (fun _ => rfl)) (fun _ => rfl)) (fun _ => rfl)) a_nil (fun _ => rfl)) (fun _ => rfl)) (fun _ => rfl)) (Nat.le_of_ble_eq_true rfl)) (by trivial) (fun _ => rfl) rfl (fun _ => rfl) ?_
      intro sights_27 hsights_27
      have hsights_27_l : sights_27.length = (s_10.1).length + 1 := by rw [hsights_27, List.length_append]; rfl
      exact ss_end (hold_end (by exact ⟨.inr rfl, .inr rfl, .inr rfl, .inr rfl, .inr rfl, .inr rfl, .inr rfl, .inr rfl, .inl rfl, .inl rfl, .inl rfl, .inl rfl, .inl rfl, trivial⟩))
    ·
      refine ss_if .nx (t_w (w_and (t_cmp c_lt (e_var V_L_book_11 rfl) e_int rfl) (fun hb_28 => (w_and1 (t_cmp c_gt (e_callB (k_lenLo (xs := persons_3) (f := dS)) G_L_book_len A.b_len bt_len (a_cons (e_var V_L_book_4 rfl) a_nil (fun _ => rfl)) (fun _ => rfl)) e_int rfl))))) (fun hc_30 => ?_) (fun hc_30 => ?_)
      ·
        refine ss_app (f := (dT4 G.K dI dS dS dS)) (xs := s_10.2.1) (y := (m_L_talk (number_21 / (8 : Int)) persons_3)) (n := 1) .nx rfl (e_var V_L_book_6 rfl) (e_call (k_L_talk A) (by decide) G_L_book__law_talk ⟨(number_21 / (8 : Int)), persons_3, (by trivial), rfl, rfl⟩ (a_cons (e_divS (e_var V_L_book_10 rfl) e_int (by trivial)) (a_cons (e_var V_L_book_4 rfl) a_nil (fun _ => rfl)) (fun _ => rfl)) (fun _ => rfl)) (by trivial) (fun _ => rfl) rfl (fun _ => rfl) ?_
        intro talks_31 htalks_31
        have htalks_31_l : talks_31.length = (s_10.2.1).length + 1 := by rw [htalks_31, List.length_append]; rfl
        exact ss_end (hold_end (by exact ⟨.inr rfl, .inr rfl, .inr rfl, .inr rfl, .inr rfl, .inr rfl, .inr rfl, .inr rfl, .inl rfl, .inl rfl, .inl rfl, .inl rfl, .inl rfl, trivial⟩))
      ·
        refine ss_app (f := (dSy G.K)) (xs := s_10.2.2) (y := (m_L_saying (number_21 / (8 : Int)) persons_3)) (n := 0) .nx rfl (e_var V_L_book_7 rfl) (e_call (k_L_saying A) (by decide) G_L_book__law_saying ⟨(number_21 / (8 : Int)), persons_3, (by trivial), rfl, rfl⟩ (a_cons (e_divS (e_var V_L_book_10 rfl) e_int (by trivial)) (a_cons (e_var V_L_book_4 rfl) a_nil (fun _ => rfl)) (fun _ => rfl)) (fun _ => rfl)) (by trivial) (fun _ => rfl) rfl (fun _ => rfl) ?_
        intro sayings_32 hsayings_32
        have hsayings_32_l : sayings_32.length = (s_10.2.2).length + 1 := by rw [hsayings_32, List.length_append]; rfl
        exact ss_end (hold_end (by exact ⟨.inr rfl, .inr rfl, .inr rfl, .inr rfl, .inr rfl, .inr rfl, .inr rfl, .inr rfl, .inl rfl, .inl rfl, .inl rfl, .inl rfl, .inl rfl, trivial⟩))
  intro s_10 he_L0
  have hgrow_35 : (s_10.1).length ≤ (([] : List (Str × Int × (List Str)))).length + 1 * ((enumL (cut a_script (some (3 : Int)) (some (63 : Int))))).length := by
    rw [he_L0]
    refine foldl_meas (m := fun s_10 : (List (Str × Int × (List Str))) × (List (Int × Str × Str × Str)) × (List Sy) => (s_10.1).length) ?_ (s0 := (([] : List (Str × Int × (List Str))), ([] : List (Int × Str × Str × Str)), ([] : List Sy)))
    intro _ _
    first | exact app_le | exact putIf_len | (simp only [lt]; exact dPut_len) | (simp only [lt]; split <;> first | exact dPut_len | omega) | ((try simp only [lt]); (repeat' split) <;> first | exact dPut_len | exact Nat.le_succ _) | (simp only [lt, slen_app, signAt_len, List.length_append, List.length_cons, List.length_nil]; omega) | ((try simp only [lt]); (repeat' split) <;> ((try simp only [lt, slen_app, signAt_len, List.length_append, List.length_cons, List.length_nil]); omega))
  rw [enumL_len] at hgrow_35
  have hgrow_36 : (s_10.2.1).length ≤ (([] : List (Int × Str × Str × Str))).length + 1 * ((enumL (cut a_script (some (3 : Int)) (some (63 : Int))))).length := by
    rw [he_L0]
    refine foldl_meas (m := fun s_10 : (List (Str × Int × (List Str))) × (List (Int × Str × Str × Str)) × (List Sy) => (s_10.2.1).length) ?_ (s0 := (([] : List (Str × Int × (List Str))), ([] : List (Int × Str × Str × Str)), ([] : List Sy)))
    intro _ _
    first | exact app_le | exact putIf_len | (simp only [lt]; exact dPut_len) | (simp only [lt]; split <;> first | exact dPut_len | omega) | ((try simp only [lt]); (repeat' split) <;> first | exact dPut_len | exact Nat.le_succ _) | (simp only [lt, slen_app, signAt_len, List.length_append, List.length_cons, List.length_nil]; omega) | ((try simp only [lt]); (repeat' split) <;> ((try simp only [lt, slen_app, signAt_len, List.length_append, List.length_cons, List.length_nil]); omega))
  rw [enumL_len] at hgrow_36
  have hgrow_37 : (s_10.2.2).length ≤ (([] : List Sy)).length + 1 * ((enumL (cut a_script (some (3 : Int)) (some (63 : Int))))).length := by
    rw [he_L0]
    refine foldl_meas (m := fun s_10 : (List (Str × Int × (List Str))) × (List (Int × Str × Str × Str)) × (List Sy) => (s_10.2.2).length) ?_ (s0 := (([] : List (Str × Int × (List Str))), ([] : List (Int × Str × Str × Str)), ([] : List Sy)))
    intro _ _
    first | exact app_le | exact putIf_len | (simp only [lt]; exact dPut_len) | (simp only [lt]; split <;> first | exact dPut_len | omega) | ((try simp only [lt]); (repeat' split) <;> first | exact dPut_len | exact Nat.le_succ _) | (simp only [lt, slen_app, signAt_len, List.length_append, List.length_cons, List.length_nil]; omega) | ((try simp only [lt]); (repeat' split) <;> ((try simp only [lt, slen_app, signAt_len, List.length_append, List.length_cons, List.length_nil]); omega))
  rw [enumL_len] at hgrow_37
  refine ss_freeze (G := G) (i := 7) rfl ?_
  refine ss_freeze (G := G) (i := 6) rfl ?_
  refine ss_freeze (G := G) (i := 5) rfl ?_
  exact ss_ret (en_lst (en_list (ds := [(dLo G.K dS) persons_3, (dLo G.K (dT3 G.K dS dI (dVt G.K dS))) s_10.1, (dLo G.K (dT4 G.K dI dS dS dS)) s_10.2.1, (dLo G.K (dSy G.K)) s_10.2.2]) (a_cons (e_var V_L_book_4 rfl) (a_cons (e_var V_L_book_5 rfl) (a_cons (e_var V_L_book_6 rfl) (a_cons (e_var V_L_book_7 rfl) a_nil (fun _ => rfl)) (fun _ => rfl)) (fun _ => rfl)) (fun _ => rfl)) (Nat.le_of_ble_eq_true rfl))) (fun _ _ _ h => h)
theorem k_L_book {G : Cfg} (A : All G) : Callee G 3 "_law_book" (sp_L_book G) := by
  refine A.d_L_book.callee (N := N_L_book) (ps := ["_law_script", "_law_most"]) (scope_of rfl rfl rfl (by decide +kernel)) (fun ds O rk h => ?_) (fun _ _ _ _ _ _ us hl => match us, hl with | [_, _], _ => rfl) (fun ds O rk h => ?_)
  · obtain ⟨a_script, a_most, hp, rfl, rfl⟩ := h; rfl
  · obtain ⟨a_script, a_most, hp, rfl, rfl⟩ := h; exact ⟨_, _, _, _, b_L_book A O a_script a_most hp, rfl⟩
def N_P_is_name : List Str := ["thing", "sign"]
def C_P_is_name : Sc := ⟨0, N_P_is_name, defScope (top 11), true, true⟩
instance : Calm C_P_is_name := ⟨rfl⟩
theorem V_P_is_name_0 : Var C_P_is_name 0 "thing" := var_of (by decide +kernel)
theorem V_P_is_name_1 : Var C_P_is_name 1 "sign" := var_of (by decide +kernel)
theorem S_P_is_name_1 : Loca C_P_is_name 1 "sign" := loc_of (by decide +kernel)
theorem G_P_is_name_KEPT_WORDS : Glo C_P_is_name "KEPT_WORDS" := glo_of (by decide +kernel)
theorem G_P_is_name_LETTERS : Glo C_P_is_name "LETTERS" := glo_of (by decide +kernel)
theorem G_P_is_name_LONGEST : Glo C_P_is_name "LONGEST" := glo_of (by decide +kernel)
theorem G_P_is_name_isinstance : Glo C_P_is_name "isinstance" := glo_of (by decide +kernel)
theorem G_P_is_name_len : Glo C_P_is_name "len" := glo_of (by decide +kernel)
theorem G_P_is_name_str : Glo C_P_is_name "str" := glo_of (by decide +kernel)
theorem b_P_is_name {G : Cfg} (A : All G) (O : Own) (a_thing : Va) : SS G C_P_is_name (defBody (top 11)) (frame0 N_P_is_name [(dA G.K) a_thing]) O (fnV dB O) (.rt (m_P_is_name a_thing)) := by
  unfold m_P_is_name
  refine ss_when .rt (t_w (w_or (t_not (t_val (e_callB (k_isA kit_str) G_P_is_name_isinstance A.b_isinstance bt_isinstance (a_cons (e_var V_P_is_name_0 rfl) (a_cons (e_tyname G_P_is_name_str A.b_str bt_str) a_nil (fun _ => rfl)) (fun _ => rfl)) (fun _ => rfl)) (fun _ _ => rfl))) (fun hb_1 => (w_or (t_not (t_chain c_le (fun _ => c_le) e_int (e_callB k_lenS G_P_is_name_len A.b_len bt_len (a_cons (e_eq (e_var V_P_is_name_0 rfl) (isy_str (notF hb_1))) a_nil (fun _ => rfl)) (fun _ => rfl)) (fun _ => (e_globI G_P_is_name_LONGEST A.c_LONGEST)) (fun X _ _ _ _ _ h1 h2 h3 h4 h5 => pt_chain h1 h2 h3 h4 h5 (by with_unfolding_all rfl)))) (fun hb_2 => (w_or1 (t_cmp c_inTS (e_eq (e_var V_P_is_name_0 rfl) (isy_str (notF hb_1))) (e_globTS G_P_is_name_KEPT_WORDS A.c_KEPT_WORDS) rfl))))))) (fun _ => nofun) (fun hc_4 => ?_) (fun hc_4 => ?_)
  ·
    exact ss_ret e_bool (fun _ _ _ h => h)
  refine ss_loop (Γ := [some ((dA G.K) a_thing), none]) (df := dS) (s0 := ()) (fun s_5 : Unit => [some ((dA G.K) a_thing), none]) (fun (s_5 : Unit) (x_6 : Str) => ([some ((dA G.K) a_thing), none]).set 1 (some (dS x_6))) (fun s_5 : Unit => O) (ei_str (e_eq (e_var V_P_is_name_0 rfl) (isy_str (notF (orL hc_4))))) (by exact ⟨.inr rfl, .inl rfl, trivial⟩) rfl (fun _ => trivial) (fun s_5 x_6 => (tj_name S_P_is_name_1)) ?_ ?_ (fun _ _ => rfl)
  ·
    intro s_5 x_6 pre_7 post_8 hs_9 hf_10
    have hm_11 : x_6 ∈ (signs a_thing.asS) := by rw [hs_9]; simp
    have hpl_12 : pre_7.length < ((signs a_thing.asS)).length := by rw [hs_9, List.length_append, List.length_cons]; omega
    rw [signs_len] at hpl_12
    refine ss_if Ret.out (t_cmp (c_ninZ hm_11) (e_var V_P_is_name_1 rfl) (e_globS G_P_is_name_LETTERS A.c_LETTERS) rfl) (fun hc_13 => ?_) (fun hc_13 => ?_)
    ·
      exact ss_ret e_bool (fun _ _ _ h => h)
    ·
      exact ss_end (hold_end (by exact ⟨.inr rfl, .inl rfl, trivial⟩))
  intro s_5 he_L0
  exact ss_ret e_bool (fun _ _ _ h => h)
theorem k_P_is_name {G : Cfg} (A : All G) : Callee G 1 "is_name" (sp_P_is_name G) := by
  refine A.d_P_is_name.callee (N := N_P_is_name) (ps := ["thing"]) (scope_of rfl rfl rfl (by decide +kernel)) (fun ds O rk h => ?_) (fun _ _ _ _ _ _ us hl => match us, hl with | [_], _ => rfl) (fun ds O rk h => ?_)
  · obtain ⟨a_thing, hp, rfl, rfl⟩ := h; rfl
  · obtain ⟨a_thing, hp, rfl, rfl⟩ := h; exact ⟨_, _, _, _, b_P_is_name A O a_thing, rfl⟩
def N_P_are_persons : List Str := ["thing", "name"]
def C_P_are_persons : Sc := ⟨1, N_P_are_persons, defScope (top 19), true, true⟩
instance : Calm C_P_are_persons := ⟨rfl⟩
theorem V_P_are_persons_0 : Var C_P_are_persons 0 "thing" := var_of (by decide +kernel)
theorem V_P_are_persons_1 : Var C_P_are_persons 1 "name" := var_of (by decide +kernel)
theorem S_P_are_persons_1 : Loca C_P_are_persons 1 "name" := loc_of (by decide +kernel)
theorem G_P_are_persons_MOST_PERSONS : Glo C_P_are_persons "MOST_PERSONS" := glo_of (by decide +kernel)
theorem G_P_are_persons_is_name : Glo C_P_are_persons "is_name" := glo_of (by decide +kernel)
theorem G_P_are_persons_isinstance : Glo C_P_are_persons "isinstance" := glo_of (by decide +kernel)
theorem G_P_are_persons_len : Glo C_P_are_persons "len" := glo_of (by decide +kernel)
theorem G_P_are_persons_list : Glo C_P_are_persons "list" := glo_of (by decide +kernel)
theorem G_P_are_persons_set : Glo C_P_are_persons "set" := glo_of (by decide +kernel)
theorem b_P_are_persons {G : Cfg} (A : All G) (O : Own) (a_thing : (List Str)) : SS G C_P_are_persons (defBody (top 19)) (frame0 N_P_are_persons [(dLo G.K dS) a_thing]) O (fnV dB O) (.rt (m_P_are_persons a_thing)) := by
  unfold m_P_are_persons
  refine ss_when .rt (t_w (w_or (t_not (t_val (e_callB (k_isi (b := true) ty_lst (by decide +kernel)) G_P_are_persons_isinstance A.b_isinstance bt_isinstance (a_cons (e_var V_P_are_persons_0 rfl) (a_cons (e_tyname G_P_are_persons_list A.b_list bt_list) a_nil (fun _ => rfl)) (fun _ => rfl)) (fun _ => rfl)) (fun _ _ => rfl))) (fun hb_1 => (w_or1 (t_not (t_chain c_le (fun _ => c_le) e_int (e_callB (k_lenLo (xs := a_thing) (f := dS)) G_P_are_persons_len A.b_len bt_len (a_cons (e_var V_P_are_persons_0 rfl) a_nil (fun _ => rfl)) (fun _ => rfl)) (fun _ => (e_globI G_P_are_persons_MOST_PERSONS A.c_MOST_PERSONS)) (fun X _ _ _ _ _ h1 h2 h3 h4 h5 => pt_chain h1 h2 h3 h4 h5 (by with_unfolding_all rfl)))))))) (fun _ => nofun) (fun hc_3 => ?_) (fun hc_3 => ?_)
  ·
    exact ss_ret e_bool (fun _ _ _ h => h)
  refine ss_loop (Γ := [some ((dLo G.K dS) a_thing), none]) (df := dS) (s0 := ()) (fun s_4 : Unit => [some ((dLo G.K dS) a_thing), none]) (fun (s_4 : Unit) (x_5 : Str) => ([some ((dLo G.K dS) a_thing), none]).set 1 (some (dS x_5))) (fun s_4 : Unit => O) (ei_list (e_var V_P_are_persons_0 rfl)) (by exact ⟨.inr rfl, .inl rfl, trivial⟩) rfl (fun _ => trivial) (fun s_4 x_5 => (tj_name S_P_are_persons_1)) ?_ ?_ (fun _ _ => rfl)
  ·
    intro s_4 x_5 pre_6 post_7 hs_8 hf_9
    have hm_10 : x_5 ∈ a_thing := by rw [hs_8]; simp
    have hpl_11 : pre_6.length < (a_thing).length := by rw [hs_8, List.length_append, List.length_cons]; omega
    refine ss_if Ret.out (t_not (t_val (e_call (k_P_is_name A) (by decide) G_P_are_persons_is_name ⟨(Va.str x_5), True.intro, rfl, rfl⟩ (a_cons (e_eq (e_var V_P_are_persons_1 rfl) ((fun x => (dA_str x).symm) x_5)) a_nil (fun _ => rfl)) (fun _ => rfl)) (fun _ _ => rfl))) (fun hc_12 => ?_) (fun hc_12 => ?_)
    ·
      exact ss_ret e_bool (fun _ _ _ h => h)
    ·
      exact ss_end (hold_end (by exact ⟨.inr rfl, .inl rfl, trivial⟩))
  intro s_4 he_L0
  exact ss_ret (e_cmp c_eqI (e_lenSet G_P_are_persons_len A.b_len G_P_are_persons_set A.b_set (e_var V_P_are_persons_0 rfl) (by trivial) (fun _ => rfl)) (e_callB (k_lenLo (xs := a_thing) (f := dS)) G_P_are_persons_len A.b_len bt_len (a_cons (e_var V_P_are_persons_0 rfl) a_nil (fun _ => rfl)) (fun _ => rfl)) rfl) (fun _ _ _ h => h)
theorem k_P_are_persons {G : Cfg} (A : All G) : Callee G 2 "are_persons" (sp_P_are_persons G) := by
  refine A.d_P_are_persons.callee (N := N_P_are_persons) (ps := ["thing"]) (scope_of rfl rfl rfl (by decide +kernel)) (fun ds O rk h => ?_) (fun _ _ _ _ _ _ us hl => match us, hl with | [_], _ => rfl) (fun ds O rk h => ?_)
  · obtain ⟨a_thing, hp, rfl, rfl⟩ := h; rfl
  · obtain ⟨a_thing, hp, rfl, rfl⟩ := h; exact ⟨_, _, _, _, b_P_are_persons A O a_thing, rfl⟩
def N_P_is_tuple_of : List Str := ["thing", "many"]
def C_P_is_tuple_of : Sc := ⟨0, N_P_is_tuple_of, defScope (top 18), true, true⟩
instance : Calm C_P_is_tuple_of := ⟨rfl⟩
theorem V_P_is_tuple_of_0 : Var C_P_is_tuple_of 0 "thing" := var_of (by decide +kernel)
theorem V_P_is_tuple_of_1 : Var C_P_is_tuple_of 1 "many" := var_of (by decide +kernel)
theorem G_P_is_tuple_of_isinstance : Glo C_P_is_tuple_of "isinstance" := glo_of (by decide +kernel)
theorem G_P_is_tuple_of_len : Glo C_P_is_tuple_of "len" := glo_of (by decide +kernel)
theorem G_P_is_tuple_of_tuple : Glo C_P_is_tuple_of "tuple" := glo_of (by decide +kernel)
theorem b_P_is_tuple_of {G : Cfg} (A : All G) (O : Own) (a_thing : Va) (a_many : Int) : SS G C_P_is_tuple_of (defBody (top 18)) (frame0 N_P_is_tuple_of [(dA G.K) a_thing, dI a_many]) O (fnV dB O) (.rt (m_P_is_tuple_of a_thing a_many)) := by
  unfold m_P_is_tuple_of
  exact ss_ret (e_and (e_callB (k_isA kit_tuple) G_P_is_tuple_of_isinstance A.b_isinstance bt_isinstance (a_cons (e_var V_P_is_tuple_of_0 rfl) (a_cons (e_tyname G_P_is_tuple_of_tuple A.b_tuple bt_tuple) a_nil (fun _ => rfl)) (fun _ => rfl)) (fun _ => rfl)) (fun hb_1 => (e_bool1 (e_cmp c_eqI (e_callB (k_lenVt (xs := a_thing.asT) (f := (dA G.K))) G_P_is_tuple_of_len A.b_len bt_len (a_cons (e_eq (e_var V_P_is_tuple_of_0 rfl) (isy_tup hb_1)) a_nil (fun _ => rfl)) (fun _ => rfl)) (e_var V_P_is_tuple_of_1 rfl) rfl)))) (fun _ _ _ h => h)
theorem k_P_is_tuple_of {G : Cfg} (A : All G) : Callee G 1 "is_tuple_of" (sp_P_is_tuple_of G) := by
  refine A.d_P_is_tuple_of.callee (N := N_P_is_tuple_of) (ps := ["thing", "many"]) (scope_of rfl rfl rfl (by decide +kernel)) (fun ds O rk h => ?_) (fun _ _ _ _ _ _ us hl => match us, hl with | [_, _], _ => rfl) (fun ds O rk h => ?_)
  · obtain ⟨a_thing, a_many, hp, rfl, rfl⟩ := h; rfl
  · obtain ⟨a_thing, a_many, hp, rfl, rfl⟩ := h; exact ⟨_, _, _, _, b_P_is_tuple_of A O a_thing a_many, rfl⟩
def N_P_is_whole : List Str := ["thing"]
def C_P_is_whole : Sc := ⟨0, N_P_is_whole, defScope (top 9), true, true⟩
instance : Calm C_P_is_whole := ⟨rfl⟩
theorem V_P_is_whole_0 : Var C_P_is_whole 0 "thing" := var_of (by decide +kernel)
theorem G_P_is_whole_bool : Glo C_P_is_whole "bool" := glo_of (by decide +kernel)
theorem G_P_is_whole_int : Glo C_P_is_whole "int" := glo_of (by decide +kernel)
theorem G_P_is_whole_isinstance : Glo C_P_is_whole "isinstance" := glo_of (by decide +kernel)
theorem b_P_is_whole {G : Cfg} (A : All G) (O : Own) (a_thing : Va) : SS G C_P_is_whole (defBody (top 9)) (frame0 N_P_is_whole [(dA G.K) a_thing]) O (fnV dB O) (.rt (m_P_is_whole a_thing)) := by
  unfold m_P_is_whole
  exact ss_ret (e_and (e_callB (k_isA kit_int) G_P_is_whole_isinstance A.b_isinstance bt_isinstance (a_cons (e_var V_P_is_whole_0 rfl) (a_cons (e_tyname G_P_is_whole_int A.b_int bt_int) a_nil (fun _ => rfl)) (fun _ => rfl)) (fun _ => rfl)) (fun hb_1 => (e_bool1 (e_not (e_callB (k_isA kit_bool) G_P_is_whole_isinstance A.b_isinstance bt_isinstance (a_cons (e_var V_P_is_whole_0 rfl) (a_cons (e_tyname G_P_is_whole_bool A.b_bool bt_bool) a_nil (fun _ => rfl)) (fun _ => rfl)) (fun _ => rfl)))))) (fun _ _ _ h => h)
theorem k_P_is_whole {G : Cfg} (A : All G) : Callee G 1 "is_whole" (sp_P_is_whole G) := by
  refine A.d_P_is_whole.callee (N := N_P_is_whole) (ps := ["thing"]) (scope_of rfl rfl rfl (by decide +kernel)) (fun ds O rk h => ?_) (fun _ _ _ _ _ _ us hl => match us, hl with | [_], _ => rfl) (fun ds O rk h => ?_)
  · obtain ⟨a_thing, hp, rfl, rfl⟩ := h; rfl
  · obtain ⟨a_thing, hp, rfl, rfl⟩ := h; exact ⟨_, _, _, _, b_P_is_whole A O a_thing, rfl⟩
def N_P_is_hour : List Str := ["thing"]
def C_P_is_hour : Sc := ⟨1, N_P_is_hour, defScope (top 10), true, true⟩
instance : Calm C_P_is_hour := ⟨rfl⟩
theorem V_P_is_hour_0 : Var C_P_is_hour 0 "thing" := var_of (by decide +kernel)
theorem G_P_is_hour_LAST_HOUR : Glo C_P_is_hour "LAST_HOUR" := glo_of (by decide +kernel)
theorem G_P_is_hour_is_whole : Glo C_P_is_hour "is_whole" := glo_of (by decide +kernel)
theorem b_P_is_hour {G : Cfg} (A : All G) (O : Own) (a_thing : Va) : SS G C_P_is_hour (defBody (top 10)) (frame0 N_P_is_hour [(dA G.K) a_thing]) O (fnV dB O) (.rt (m_P_is_hour a_thing)) := by
  unfold m_P_is_hour
  exact ss_ret (e_and (e_call (k_P_is_whole A) (by decide) G_P_is_hour_is_whole ⟨a_thing, True.intro, rfl, rfl⟩ (a_cons (e_var V_P_is_hour_0 rfl) a_nil (fun _ => rfl)) (fun _ => rfl)) (fun hb_1 => (e_bool1 (e_chain c_le (fun _ => c_le) e_int (e_eq (e_var V_P_is_hour_0 rfl) (isy_int (whole_isA hb_1).1 (whole_isA hb_1).2)) (fun _ => (e_globI G_P_is_hour_LAST_HOUR A.c_LAST_HOUR)) (fun X _ _ _ _ _ h1 h2 h3 h4 h5 => pe_chain h1 h2 h3 h4 h5 (by with_unfolding_all rfl)))))) (fun _ _ _ h => h)
theorem k_P_is_hour {G : Cfg} (A : All G) : Callee G 2 "is_hour" (sp_P_is_hour G) := by
  refine A.d_P_is_hour.callee (N := N_P_is_hour) (ps := ["thing"]) (scope_of rfl rfl rfl (by decide +kernel)) (fun ds O rk h => ?_) (fun _ _ _ _ _ _ us hl => match us, hl with | [_], _ => rfl) (fun ds O rk h => ?_)
  · obtain ⟨a_thing, hp, rfl, rfl⟩ := h; rfl
  · obtain ⟨a_thing, hp, rfl, rfl⟩ := h; exact ⟨_, _, _, _, b_P_is_hour A O a_thing, rfl⟩
def N_P_is_tale : List Str := ["thing", "word"]
def C_P_is_tale : Sc := ⟨1, N_P_is_tale, defScope (top 20), true, true⟩
instance : Calm C_P_is_tale := ⟨rfl⟩
theorem V_P_is_tale_0 : Var C_P_is_tale 0 "thing" := var_of (by decide +kernel)
theorem V_P_is_tale_1 : Var C_P_is_tale 1 "word" := var_of (by decide +kernel)
theorem S_P_is_tale_1 : Loca C_P_is_tale 1 "word" := loc_of (by decide +kernel)
theorem G_P_is_tale_MOST_WORDS : Glo C_P_is_tale "MOST_WORDS" := glo_of (by decide +kernel)
theorem G_P_is_tale_is_name : Glo C_P_is_tale "is_name" := glo_of (by decide +kernel)
theorem G_P_is_tale_isinstance : Glo C_P_is_tale "isinstance" := glo_of (by decide +kernel)
theorem G_P_is_tale_len : Glo C_P_is_tale "len" := glo_of (by decide +kernel)
theorem G_P_is_tale_tuple : Glo C_P_is_tale "tuple" := glo_of (by decide +kernel)
theorem b_P_is_tale {G : Cfg} (A : All G) (O : Own) (a_thing : (List Str)) : SS G C_P_is_tale (defBody (top 20)) (frame0 N_P_is_tale [(dVt G.K dS) a_thing]) O (fnV dB O) (.rt (m_P_is_tale a_thing)) := by
  unfold m_P_is_tale
  refine ss_when .rt (t_w (w_or (t_not (t_val (e_callB (k_isi (b := true) ty_tup (by decide +kernel)) G_P_is_tale_isinstance A.b_isinstance bt_isinstance (a_cons (e_var V_P_is_tale_0 rfl) (a_cons (e_tyname G_P_is_tale_tuple A.b_tuple bt_tuple) a_nil (fun _ => rfl)) (fun _ => rfl)) (fun _ => rfl)) (fun _ _ => rfl))) (fun hb_1 => (w_or1 (t_not (t_chain c_le (fun _ => c_le) e_int (e_callB (k_lenVt (xs := a_thing) (f := dS)) G_P_is_tale_len A.b_len bt_len (a_cons (e_var V_P_is_tale_0 rfl) a_nil (fun _ => rfl)) (fun _ => rfl)) (fun _ => (e_globI G_P_is_tale_MOST_WORDS A.c_MOST_WORDS)) (fun X _ _ _ _ _ h1 h2 h3 h4 h5 => pt_chain h1 h2 h3 h4 h5 (by with_unfolding_all rfl)))))))) (fun _ => nofun) (fun hc_3 => ?_) (fun hc_3 => ?_)
  ·
    exact ss_ret e_bool (fun _ _ _ h => h)
  refine ss_loop (Γ := [some ((dVt G.K dS) a_thing), none]) (df := dS) (s0 := ()) (fun s_4 : Unit => [some ((dVt G.K dS) a_thing), none]) (fun (s_4 : Unit) (x_5 : Str) => ([some ((dVt G.K dS) a_thing), none]).set 1 (some (dS x_5))) (fun s_4 : Unit => O) (ei_tup (e_var V_P_is_tale_0 rfl)) (by exact ⟨.inr rfl, .inl rfl, trivial⟩) rfl (fun _ => trivial) (fun s_4 x_5 => (tj_name S_P_is_tale_1)) ?_ ?_ (fun _ _ => rfl)
  ·
    intro s_4 x_5 pre_6 post_7 hs_8 hf_9
    have hm_10 : x_5 ∈ a_thing := by rw [hs_8]; simp
    have hpl_11 : pre_6.length < (a_thing).length := by rw [hs_8, List.length_append, List.length_cons]; omega
    refine ss_if Ret.out (t_not (t_val (e_call (k_P_is_name A) (by decide) G_P_is_tale_is_name ⟨(Va.str x_5), True.intro, rfl, rfl⟩ (a_cons (e_eq (e_var V_P_is_tale_1 rfl) ((fun x => (dA_str x).symm) x_5)) a_nil (fun _ => rfl)) (fun _ => rfl)) (fun _ _ => rfl))) (fun hc_12 => ?_) (fun hc_12 => ?_)
    ·
      exact ss_ret e_bool (fun _ _ _ h => h)
    ·
      exact ss_end (hold_end (by exact ⟨.inr rfl, .inl rfl, trivial⟩))
  intro s_4 he_L0
  exact ss_ret e_bool (fun _ _ _ h => h)
theorem k_P_is_tale {G : Cfg} (A : All G) : Callee G 2 "is_tale" (sp_P_is_tale G) := by
  refine A.d_P_is_tale.callee (N := N_P_is_tale) (ps := ["thing"]) (scope_of rfl rfl rfl (by decide +kernel)) (fun ds O rk h => ?_) (fun _ _ _ _ _ _ us hl => match us, hl with | [_], _ => rfl) (fun ds O rk h => ?_)
  · obtain ⟨a_thing, hp, rfl, rfl⟩ := h; rfl
  · obtain ⟨a_thing, hp, rfl, rfl⟩ := h; exact ⟨_, _, _, _, b_P_is_tale A O a_thing, rfl⟩
def N_P_is_sight : List Str := ["thing", "persons"]
def C_P_is_sight : Sc := ⟨2, N_P_is_sight, defScope (top 21), true, true⟩
instance : Calm C_P_is_sight := ⟨rfl⟩
theorem V_P_is_sight_0 : Var C_P_is_sight 0 "thing" := var_of (by decide +kernel)
theorem V_P_is_sight_1 : Var C_P_is_sight 1 "persons" := var_of (by decide +kernel)
theorem G_P_is_sight_is_hour : Glo C_P_is_sight "is_hour" := glo_of (by decide +kernel)
theorem G_P_is_sight_is_tale : Glo C_P_is_sight "is_tale" := glo_of (by decide +kernel)
theorem G_P_is_sight_is_tuple_of : Glo C_P_is_sight "is_tuple_of" := glo_of (by decide +kernel)
theorem b_P_is_sight {G : Cfg} (A : All G) (O : Own) (a_thing : (Str × Int × (List Str))) (a_persons : (List Str)) : SS G C_P_is_sight (defBody (top 21)) (frame0 N_P_is_sight [(dT3 G.K dS dI (dVt G.K dS)) a_thing, (dLo G.K dS) a_persons]) O (fnV dB O) (.rt (m_P_is_sight a_thing a_persons)) := by
  unfold m_P_is_sight
  refine ss_when .rt (t_not (t_val (e_call (k_P_is_tuple_of A) (by decide) G_P_is_sight_is_tuple_of ⟨((fun x : (Str × Int × (List Str)) => Va.tup [Va.str x.1, Va.int x.2.1, (fun xs : (List Str) => Va.tup (xs.map Va.str)) x.2.2]) a_thing), (3 : Int), True.intro, rfl, rfl⟩ (a_cons (e_eq (e_var V_P_is_sight_0 rfl) ((any_t3 (fun x => (dA_str x).symm) (fun x => (dA_int x).symm) (any_tup (fun x => (dA_str x).symm))) a_thing)) (a_cons e_int a_nil (fun _ => rfl)) (fun _ => rfl)) (fun _ => rfl)) (fun _ _ => rfl))) (fun _ => nofun) (fun hc_1 => ?_) (fun hc_1 => ?_)
  ·
    exact ss_ret e_bool (fun _ _ _ h => h)
  exact ss_ret (e_and (e_cmp c_inLS (e_ixT (i := (0 : Int)) rfl (e_var V_P_is_sight_0 rfl) e_int (fun _ _ => rfl)) (e_var V_P_is_sight_1 rfl) rfl) (fun hb_2 => (e_and (e_call (k_P_is_hour A) (by decide) G_P_is_sight_is_hour ⟨(Va.int a_thing.2.1), True.intro, rfl, rfl⟩ (a_cons (e_eq (e_ixT (i := (1 : Int)) rfl (e_var V_P_is_sight_0 rfl) e_int (fun _ _ => rfl)) ((fun x => (dA_int x).symm) a_thing.2.1)) a_nil (fun _ => rfl)) (fun _ => rfl)) (fun hb_3 => (e_bool1 (e_call (k_P_is_tale A) (by decide) G_P_is_sight_is_tale ⟨a_thing.2.2, True.intro, rfl, rfl⟩ (a_cons (e_ixT (i := (2 : Int)) rfl (e_var V_P_is_sight_0 rfl) e_int (fun _ _ => rfl)) a_nil (fun _ => rfl)) (fun _ => rfl))))))) (fun _ _ _ h => h)
theorem k_P_is_sight {G : Cfg} (A : All G) : Callee G 3 "is_sight" (sp_P_is_sight G) := by
  refine A.d_P_is_sight.callee (N := N_P_is_sight) (ps := ["thing", "persons"]) (scope_of rfl rfl rfl (by decide +kernel)) (fun ds O rk h => ?_) (fun _ _ _ _ _ _ us hl => match us, hl with | [_, _], _ => rfl) (fun ds O rk h => ?_)
  · obtain ⟨a_thing, a_persons, hp, rfl, rfl⟩ := h; rfl
  · obtain ⟨a_thing, a_persons, hp, rfl, rfl⟩ := h; exact ⟨_, _, _, _, b_P_is_sight A O a_thing a_persons, rfl⟩
def N_P_are_all_at_is_sight : List Str := ["thing", "most", "persons", "fits", "one"]
def C_P_are_all_at_is_sight : Sc := ⟨3, N_P_are_all_at_is_sight, defScope (top 25), true, true⟩
instance : Calm C_P_are_all_at_is_sight := ⟨rfl⟩
theorem V_P_are_all_at_is_sight_0 : Var C_P_are_all_at_is_sight 0 "thing" := var_of (by decide +kernel)
theorem V_P_are_all_at_is_sight_1 : Var C_P_are_all_at_is_sight 1 "most" := var_of (by decide +kernel)
theorem V_P_are_all_at_is_sight_2 : Var C_P_are_all_at_is_sight 2 "persons" := var_of (by decide +kernel)
theorem V_P_are_all_at_is_sight_3 : Var C_P_are_all_at_is_sight 3 "fits" := var_of (by decide +kernel)
theorem V_P_are_all_at_is_sight_4 : Var C_P_are_all_at_is_sight 4 "one" := var_of (by decide +kernel)
theorem S_P_are_all_at_is_sight_4 : Loca C_P_are_all_at_is_sight 4 "one" := loc_of (by decide +kernel)
theorem G_P_are_all_at_is_sight_isinstance : Glo C_P_are_all_at_is_sight "isinstance" := glo_of (by decide +kernel)
theorem G_P_are_all_at_is_sight_len : Glo C_P_are_all_at_is_sight "len" := glo_of (by decide +kernel)
theorem G_P_are_all_at_is_sight_list : Glo C_P_are_all_at_is_sight "list" := glo_of (by decide +kernel)
theorem b_P_are_all_at_is_sight {G : Cfg} (A : All G) (O : Own) (a_thing : (List (Str × Int × (List Str)))) (a_most : Int) (a_persons : (List Str)) : SS G C_P_are_all_at_is_sight (defBody (top 25)) (frame0 N_P_are_all_at_is_sight [(dLo G.K (dT3 G.K dS dI (dVt G.K dS))) a_thing, dI a_most, (dLo G.K dS) a_persons, dFn G 3 (sp_P_is_sight G)]) O (fnV dB O) (.rt (m_P_are_all_at_is_sight a_thing a_most a_persons)) := by
  unfold m_P_are_all_at_is_sight
  refine ss_when .rt (t_w (w_or (t_not (t_val (e_callB (k_isi (b := true) ty_lst (by decide +kernel)) G_P_are_all_at_is_sight_isinstance A.b_isinstance bt_isinstance (a_cons (e_var V_P_are_all_at_is_sight_0 rfl) (a_cons (e_tyname G_P_are_all_at_is_sight_list A.b_list bt_list) a_nil (fun _ => rfl)) (fun _ => rfl)) (fun _ => rfl)) (fun _ _ => rfl))) (fun hb_1 => (w_or1 (t_cmp c_gt (e_callB (k_lenLo (xs := a_thing) (f := (dT3 G.K dS dI (dVt G.K dS)))) G_P_are_all_at_is_sight_len A.b_len bt_len (a_cons (e_var V_P_are_all_at_is_sight_0 rfl) a_nil (fun _ => rfl)) (fun _ => rfl)) (e_var V_P_are_all_at_is_sight_1 rfl) rfl))))) (fun _ => nofun) (fun hc_3 => ?_) (fun hc_3 => ?_)
  ·
    exact ss_ret e_bool (fun _ _ _ h => h)
  refine ss_loop (Γ := [some ((dLo G.K (dT3 G.K dS dI (dVt G.K dS))) a_thing), some (dI a_most), some ((dLo G.K dS) a_persons), some (dFn G 3 (sp_P_is_sight G)), none]) (df := (dT3 G.K dS dI (dVt G.K dS))) (s0 := ()) (fun s_4 : Unit => [some ((dLo G.K (dT3 G.K dS dI (dVt G.K dS))) a_thing), some (dI a_most), some ((dLo G.K dS) a_persons), some (dFn G 3 (sp_P_is_sight G)), none]) (fun (s_4 : Unit) (x_5 : (Str × Int × (List Str))) => ([some ((dLo G.K (dT3 G.K dS dI (dVt G.K dS))) a_thing), some (dI a_most), some ((dLo G.K dS) a_persons), some (dFn G 3 (sp_P_is_sight G)), none]).set 4 (some ((dT3 G.K dS dI (dVt G.K dS)) x_5))) (fun s_4 : Unit => O) (ei_list (e_var V_P_are_all_at_is_sight_0 rfl)) (by exact ⟨.inr rfl, .inr rfl, .inr rfl, .inr rfl, .inl rfl, trivial⟩) rfl (fun _ => trivial) (fun s_4 x_5 => (tj_name S_P_are_all_at_is_sight_4)) ?_ ?_ (fun _ _ => rfl)
  ·
    intro s_4 x_5 pre_6 post_7 hs_8 hf_9
    have hm_10 : x_5 ∈ a_thing := by rw [hs_8]; simp
    have hpl_11 : pre_6.length < (a_thing).length := by rw [hs_8, List.length_append, List.length_cons]; omega
    refine ss_if Ret.out (t_not (t_val (e_callL V_P_are_all_at_is_sight_3 rfl (by decide) ⟨x_5, a_persons, True.intro, rfl, rfl⟩ (a_cons (e_var V_P_are_all_at_is_sight_4 rfl) (a_cons (e_var V_P_are_all_at_is_sight_2 rfl) a_nil (fun _ => rfl)) (fun _ => rfl)) (fun _ => rfl)) (fun _ _ => rfl))) (fun hc_12 => ?_) (fun hc_12 => ?_)
    ·
      exact ss_ret e_bool (fun _ _ _ h => h)
    ·
      exact ss_end (hold_end (by exact ⟨.inr rfl, .inr rfl, .inr rfl, .inr rfl, .inl rfl, trivial⟩))
  intro s_4 he_L0
  exact ss_ret e_bool (fun _ _ _ h => h)
theorem k_P_are_all_at_is_sight {G : Cfg} (A : All G) : Callee G 4 "are_all" (sp_P_are_all_at_is_sight G) := by
  refine A.d_P_are_all.callee (N := N_P_are_all_at_is_sight) (ps := ["thing", "most", "persons", "fits"]) (scope_of rfl rfl rfl (by decide +kernel)) (fun ds O rk h => ?_) (fun _ _ _ _ _ _ us hl => match us, hl with | [_, _, _, _], _ => rfl) (fun ds O rk h => ?_)
  · obtain ⟨a_thing, a_most, a_persons, hp, rfl, rfl⟩ := h; rfl
  · obtain ⟨a_thing, a_most, a_persons, hp, rfl, rfl⟩ := h; exact ⟨_, _, _, _, b_P_are_all_at_is_sight A O a_thing a_most a_persons, rfl⟩
def N_P_are_two : List Str := ["one", "other", "persons"]
def C_P_are_two : Sc := ⟨0, N_P_are_two, defScope (top 22), true, true⟩
instance : Calm C_P_are_two := ⟨rfl⟩
theorem V_P_are_two_0 : Var C_P_are_two 0 "one" := var_of (by decide +kernel)
theorem V_P_are_two_1 : Var C_P_are_two 1 "other" := var_of (by decide +kernel)
theorem V_P_are_two_2 : Var C_P_are_two 2 "persons" := var_of (by decide +kernel)
theorem b_P_are_two {G : Cfg} (A : All G) (O : Own) (a_one : Str) (a_other : Str) (a_persons : (List Str)) : SS G C_P_are_two (defBody (top 22)) (frame0 N_P_are_two [dS a_one, dS a_other, (dLo G.K dS) a_persons]) O (fnV dB O) (.rt (m_P_are_two a_one a_other a_persons)) := by
  unfold m_P_are_two
  exact ss_ret (e_and (e_cmp c_inLS (e_var V_P_are_two_0 rfl) (e_var V_P_are_two_2 rfl) rfl) (fun hb_1 => (e_and (e_cmp c_inLS (e_var V_P_are_two_1 rfl) (e_var V_P_are_two_2 rfl) rfl) (fun hb_2 => (e_bool1 (e_cmp c_neS (e_var V_P_are_two_0 rfl) (e_var V_P_are_two_1 rfl) rfl)))))) (fun _ _ _ h => h)
theorem k_P_are_two {G : Cfg} (A : All G) : Callee G 1 "are_two" (sp_P_are_two G) := by
  refine A.d_P_are_two.callee (N := N_P_are_two) (ps := ["one", "other", "persons"]) (scope_of rfl rfl rfl (by decide +kernel)) (fun ds O rk h => ?_) (fun _ _ _ _ _ _ us hl => match us, hl with | [_, _, _], _ => rfl) (fun ds O rk h => ?_)
  · obtain ⟨a_one, a_other, a_persons, hp, rfl, rfl⟩ := h; rfl
  · obtain ⟨a_one, a_other, a_persons, hp, rfl, rfl⟩ := h; exact ⟨_, _, _, _, b_P_are_two A O a_one a_other a_persons, rfl⟩
def N_P_is_talk : List Str := ["thing", "persons"]
def C_P_is_talk : Sc := ⟨2, N_P_is_talk, defScope (top 23), true, true⟩
instance : Calm C_P_is_talk := ⟨rfl⟩
theorem V_P_is_talk_0 : Var C_P_is_talk 0 "thing" := var_of (by decide +kernel)
theorem V_P_is_talk_1 : Var C_P_is_talk 1 "persons" := var_of (by decide +kernel)
theorem G_P_is_talk_are_two : Glo C_P_is_talk "are_two" := glo_of (by decide +kernel)
theorem G_P_is_talk_is_hour : Glo C_P_is_talk "is_hour" := glo_of (by decide +kernel)
theorem G_P_is_talk_is_tuple_of : Glo C_P_is_talk "is_tuple_of" := glo_of (by decide +kernel)
theorem b_P_is_talk {G : Cfg} (A : All G) (O : Own) (a_thing : (Int × Str × Str × Str)) (a_persons : (List Str)) : SS G C_P_is_talk (defBody (top 23)) (frame0 N_P_is_talk [(dT4 G.K dI dS dS dS) a_thing, (dLo G.K dS) a_persons]) O (fnV dB O) (.rt (m_P_is_talk a_thing a_persons)) := by
  unfold m_P_is_talk
  refine ss_when .rt (t_not (t_val (e_call (k_P_is_tuple_of A) (by decide) G_P_is_talk_is_tuple_of ⟨((fun x : (Int × Str × Str × Str) => Va.tup [Va.int x.1, Va.str x.2.1, Va.str x.2.2.1, Va.str x.2.2.2]) a_thing), (4 : Int), True.intro, rfl, rfl⟩ (a_cons (e_eq (e_var V_P_is_talk_0 rfl) ((any_t4 (fun x => (dA_int x).symm) (fun x => (dA_str x).symm) (fun x => (dA_str x).symm) (fun x => (dA_str x).symm)) a_thing)) (a_cons e_int a_nil (fun _ => rfl)) (fun _ => rfl)) (fun _ => rfl)) (fun _ _ => rfl))) (fun _ => nofun) (fun hc_1 => ?_) (fun hc_1 => ?_)
  ·
    exact ss_ret e_bool (fun _ _ _ h => h)
  exact ss_ret (e_and (e_call (k_P_is_hour A) (by decide) G_P_is_talk_is_hour ⟨(Va.int a_thing.1), True.intro, rfl, rfl⟩ (a_cons (e_eq (e_ixT (i := (0 : Int)) rfl (e_var V_P_is_talk_0 rfl) e_int (fun _ _ => rfl)) ((fun x => (dA_int x).symm) a_thing.1)) a_nil (fun _ => rfl)) (fun _ => rfl)) (fun hb_2 => (e_and (e_call (k_P_are_two A) (by decide) G_P_is_talk_are_two ⟨a_thing.2.1, a_thing.2.2.1, a_persons, True.intro, rfl, rfl⟩ (a_cons (e_ixT (i := (1 : Int)) rfl (e_var V_P_is_talk_0 rfl) e_int (fun _ _ => rfl)) (a_cons (e_ixT (i := (2 : Int)) rfl (e_var V_P_is_talk_0 rfl) e_int (fun _ _ => rfl)) (a_cons (e_var V_P_is_talk_1 rfl) a_nil (fun _ => rfl)) (fun _ => rfl)) (fun _ => rfl)) (fun _ => rfl)) (fun hb_3 => (e_bool1 (e_cmp c_inTS (e_ixT (i := (3 : Int)) rfl (e_var V_P_is_talk_0 rfl) e_int (fun _ _ => rfl)) (e_tup (ds := [dS ("both" : Str), dS ("one" : Str)]) (a_cons e_str (a_cons e_str a_nil (fun _ => rfl)) (fun _ => rfl)) (Nat.le_of_ble_eq_true rfl)) rfl)))))) (fun _ _ _ h => h)
theorem k_P_is_talk {G : Cfg} (A : All G) : Callee G 3 "is_talk" (sp_P_is_talk G) := by
  refine A.d_P_is_talk.callee (N := N_P_is_talk) (ps := ["thing", "persons"]) (scope_of rfl rfl rfl (by decide +kernel)) (fun ds O rk h => ?_) (fun _ _ _ _ _ _ us hl => match us, hl with | [_, _], _ => rfl) (fun ds O rk h => ?_)
  · obtain ⟨a_thing, a_persons, hp, rfl, rfl⟩ := h; rfl
  · obtain ⟨a_thing, a_persons, hp, rfl, rfl⟩ := h; exact ⟨_, _, _, _, b_P_is_talk A O a_thing a_persons, rfl⟩
def N_P_are_all_at_is_talk : List Str := ["thing", "most", "persons", "fits", "one"]
def C_P_are_all_at_is_talk : Sc := ⟨3, N_P_are_all_at_is_talk, defScope (top 25), true, true⟩
instance : Calm C_P_are_all_at_is_talk := ⟨rfl⟩
theorem V_P_are_all_at_is_talk_0 : Var C_P_are_all_at_is_talk 0 "thing" := var_of (by decide +kernel)
theorem V_P_are_all_at_is_talk_1 : Var C_P_are_all_at_is_talk 1 "most" := var_of (by decide +kernel)
theorem V_P_are_all_at_is_talk_2 : Var C_P_are_all_at_is_talk 2 "persons" := var_of (by decide +kernel)
theorem V_P_are_all_at_is_talk_3 : Var C_P_are_all_at_is_talk 3 "fits" := var_of (by decide +kernel)
theorem V_P_are_all_at_is_talk_4 : Var C_P_are_all_at_is_talk 4 "one" := var_of (by decide +kernel)
theorem S_P_are_all_at_is_talk_4 : Loca C_P_are_all_at_is_talk 4 "one" := loc_of (by decide +kernel)
theorem G_P_are_all_at_is_talk_isinstance : Glo C_P_are_all_at_is_talk "isinstance" := glo_of (by decide +kernel)
theorem G_P_are_all_at_is_talk_len : Glo C_P_are_all_at_is_talk "len" := glo_of (by decide +kernel)
theorem G_P_are_all_at_is_talk_list : Glo C_P_are_all_at_is_talk "list" := glo_of (by decide +kernel)
theorem b_P_are_all_at_is_talk {G : Cfg} (A : All G) (O : Own) (a_thing : (List (Int × Str × Str × Str))) (a_most : Int) (a_persons : (List Str)) : SS G C_P_are_all_at_is_talk (defBody (top 25)) (frame0 N_P_are_all_at_is_talk [(dLo G.K (dT4 G.K dI dS dS dS)) a_thing, dI a_most, (dLo G.K dS) a_persons, dFn G 3 (sp_P_is_talk G)]) O (fnV dB O) (.rt (m_P_are_all_at_is_talk a_thing a_most a_persons)) := by
  unfold m_P_are_all_at_is_talk
  refine ss_when .rt (t_w (w_or (t_not (t_val (e_callB (k_isi (b := true) ty_lst (by decide +kernel)) G_P_are_all_at_is_talk_isinstance A.b_isinstance bt_isinstance (a_cons (e_var V_P_are_all_at_is_talk_0 rfl) (a_cons (e_tyname G_P_are_all_at_is_talk_list A.b_list bt_list) a_nil (fun _ => rfl)) (fun _ => rfl)) (fun _ => rfl)) (fun _ _ => rfl))) (fun hb_1 => (w_or1 (t_cmp c_gt (e_callB (k_lenLo (xs := a_thing) (f := (dT4 G.K dI dS dS dS))) G_P_are_all_at_is_talk_len A.b_len bt_len (a_cons (e_var V_P_are_all_at_is_talk_0 rfl) a_nil (fun _ => rfl)) (fun _ => rfl)) (e_var V_P_are_all_at_is_talk_1 rfl) rfl))))) (fun _ => nofun) (fun hc_3 => ?_) (fun hc_3 => ?_)
  ·
    exact ss_ret e_bool (fun _ _ _ h => h)
  refine ss_loop (Γ := [some ((dLo G.K (dT4 G.K dI dS dS dS)) a_thing), some (dI a_most), some ((dLo G.K dS) a_persons), some (dFn G 3 (sp_P_is_talk G)), none]) (df := (dT4 G.K dI dS dS dS)) (s0 := ()) (fun s_4 : Unit => [some ((dLo G.K (dT4 G.K dI dS dS dS)) a_thing), some (dI a_most), some ((dLo G.K dS) a_persons), some (dFn G 3 (sp_P_is_talk G)), none]) (fun (s_4 : Unit) (x_5 : (Int × Str × Str × Str)) => ([some ((dLo G.K (dT4 G.K dI dS dS dS)) a_thing), some (dI a_most), some ((dLo G.K dS) a_persons), some (dFn G 3 (sp_P_is_talk G)), none]).set 4 (some ((dT4 G.K dI dS dS dS) x_5))) (fun s_4 : Unit => O) (ei_list (e_var V_P_are_all_at_is_talk_0 rfl)) (by exact ⟨.inr rfl, .inr rfl, .inr rfl, .inr rfl, .inl rfl, trivial⟩) rfl (fun _ => trivial) (fun s_4 x_5 => (tj_name S_P_are_all_at_is_talk_4)) ?_ ?_ (fun _ _ => rfl)
  ·
    intro s_4 x_5 pre_6 post_7 hs_8 hf_9
    have hm_10 : x_5 ∈ a_thing := by rw [hs_8]; simp
    have hpl_11 : pre_6.length < (a_thing).length := by rw [hs_8, List.length_append, List.length_cons]; omega
    refine ss_if Ret.out (t_not (t_val (e_callL V_P_are_all_at_is_talk_3 rfl (by decide) ⟨x_5, a_persons, True.intro, rfl, rfl⟩ (a_cons (e_var V_P_are_all_at_is_talk_4 rfl) (a_cons (e_var V_P_are_all_at_is_talk_2 rfl) a_nil (fun _ => rfl)) (fun _ => rfl)) (fun _ => rfl)) (fun _ _ => rfl))) (fun hc_12 => ?_) (fun hc_12 => ?_)
    ·
      exact ss_ret e_bool (fun _ _ _ h => h)
    ·
      exact ss_end (hold_end (by exact ⟨.inr rfl, .inr rfl, .inr rfl, .inr rfl, .inl rfl, trivial⟩))
  intro s_4 he_L0
  exact ss_ret e_bool (fun _ _ _ h => h)
theorem k_P_are_all_at_is_talk {G : Cfg} (A : All G) : Callee G 4 "are_all" (sp_P_are_all_at_is_talk G) := by
  refine A.d_P_are_all.callee (N := N_P_are_all_at_is_talk) (ps := ["thing", "most", "persons", "fits"]) (scope_of rfl rfl rfl (by decide +kernel)) (fun ds O rk h => ?_) (fun _ _ _ _ _ _ us hl => match us, hl with | [_, _, _, _], _ => rfl) (fun ds O rk h => ?_)
  · obtain ⟨a_thing, a_most, a_persons, hp, rfl, rfl⟩ := h; rfl
  · obtain ⟨a_thing, a_most, a_persons, hp, rfl, rfl⟩ := h; exact ⟨_, _, _, _, b_P_are_all_at_is_talk A O a_thing a_most a_persons, rfl⟩
def N_P_is_saying : List Str := ["thing", "persons"]
def C_P_is_saying : Sc := ⟨2, N_P_is_saying, defScope (top 24), true, true⟩
instance : Calm C_P_is_saying := ⟨rfl⟩
theorem V_P_is_saying_0 : Var C_P_is_saying 0 "thing" := var_of (by decide +kernel)
theorem V_P_is_saying_1 : Var C_P_is_saying 1 "persons" := var_of (by decide +kernel)
theorem G_P_is_saying_are_two : Glo C_P_is_saying "are_two" := glo_of (by decide +kernel)
theorem G_P_is_saying_is_hour : Glo C_P_is_saying "is_hour" := glo_of (by decide +kernel)
theorem G_P_is_saying_isinstance : Glo C_P_is_saying "isinstance" := glo_of (by decide +kernel)
theorem G_P_is_saying_len : Glo C_P_is_saying "len" := glo_of (by decide +kernel)
theorem G_P_is_saying_tuple : Glo C_P_is_saying "tuple" := glo_of (by decide +kernel)
theorem b_P_is_saying {G : Cfg} (A : All G) (O : Own) (a_thing : Sy) (a_persons : (List Str)) : SS G C_P_is_saying (defBody (top 24)) (frame0 N_P_is_saying [(dSy G.K) a_thing, (dLo G.K dS) a_persons]) O (fnV dB O) (.rt (m_P_is_saying a_thing a_persons)) := by
  unfold m_P_is_saying
  refine ss_when .rt (t_w (w_or (t_not (t_val (e_callB (k_isi (b := true) ty_tup (by decide +kernel)) G_P_is_saying_isinstance A.b_isinstance bt_isinstance (a_cons (e_var V_P_is_saying_0 rfl) (a_cons (e_tyname G_P_is_saying_tuple A.b_tuple bt_tuple) a_nil (fun _ => rfl)) (fun _ => rfl)) (fun _ => rfl)) (fun _ _ => rfl))) (fun hb_1 => (w_or (t_cmp c_lt (e_callB k_lenSy G_P_is_saying_len A.b_len bt_len (a_cons (e_var V_P_is_saying_0 rfl) a_nil (fun _ => rfl)) (fun _ => rfl)) e_int rfl) (fun hb_2 => (w_or1 (t_cmp c_ninLS (e_sy1 (e_var V_P_is_saying_0 rfl)) (e_var V_P_is_saying_1 rfl) rfl))))))) (fun _ => nofun) (fun hc_4 => ?_) (fun hc_4 => ?_)
  ·
    exact ss_ret e_bool (fun _ _ _ h => h)
  refine ss_when .rt (t_cmp c_eqS (e_sy0 (e_var V_P_is_saying_0 rfl)) e_str rfl) (fun _ => nofun) (fun hc_5 => ?_) (fun hc_5 => ?_)
  ·
    exact ss_ret (e_and (e_cmp c_eqI (e_callB k_lenSy G_P_is_saying_len A.b_len bt_len (a_cons (e_var V_P_is_saying_0 rfl) a_nil (fun _ => rfl)) (fun _ => rfl)) e_int rfl) (fun hb_6 => (e_and (e_call (k_P_is_hour A) (by decide) G_P_is_saying_is_hour ⟨(Va.int a_thing.h1), True.intro, rfl, rfl⟩ (a_cons (e_eq (e_sy2s hc_5 (e_var V_P_is_saying_0 rfl)) ((fun x => (dA_int x).symm) a_thing.h1)) a_nil (fun _ => rfl)) (fun _ => rfl)) (fun hb_7 => (e_and (e_call (k_P_is_hour A) (by decide) G_P_is_saying_is_hour ⟨(Va.int a_thing.h2), True.intro, rfl, rfl⟩ (a_cons (e_eq (e_sy3s hc_5 (e_var V_P_is_saying_0 rfl)) ((fun x => (dA_int x).symm) a_thing.h2)) a_nil (fun _ => rfl)) (fun _ => rfl)) (fun hb_8 => (e_bool1 (e_cmp c_le (e_sy2s hc_5 (e_var V_P_is_saying_0 rfl)) (e_sy3s hc_5 (e_var V_P_is_saying_0 rfl)) rfl)))))))) (fun _ _ _ h => h)
  refine ss_when .rt (t_cmp c_neI (e_callB k_lenSy G_P_is_saying_len A.b_len bt_len (a_cons (e_var V_P_is_saying_0 rfl) a_nil (fun _ => rfl)) (fun _ => rfl)) e_int rfl) (fun _ => nofun) (fun hc_10 => ?_) (fun hc_10 => ?_)
  ·
    exact ss_ret e_bool (fun _ _ _ h => h)
  refine ss_when .rt (t_cmp c_eqS (e_sy0 (e_var V_P_is_saying_0 rfl)) e_str rfl) (fun _ => nofun) (fun hc_11 => ?_) (fun hc_11 => ?_)
  ·
    exact ss_ret (e_call (k_P_is_hour A) (by decide) G_P_is_saying_is_hour ⟨(Va.int a_thing.h1), True.intro, rfl, rfl⟩ (a_cons (e_eq (e_sy2k hc_11 (e_var V_P_is_saying_0 rfl)) ((fun x => (dA_int x).symm) a_thing.h1)) a_nil (fun _ => rfl)) (fun _ => rfl)) (fun _ _ _ h => h)
  refine ss_when .rt (t_cmp c_eqS (e_sy0 (e_var V_P_is_saying_0 rfl)) e_str rfl) (fun _ => nofun) (fun hc_12 => ?_) (fun hc_12 => ?_)
  ·
    exact ss_ret (e_or (e_cmp (c_isO (f := dI) (o := a_thing.ho) notN_I) (e_sy2u hc_12 (e_var V_P_is_saying_0 rfl)) e_none rfl) (fun hb_13 => (e_bool1 (e_call (k_P_is_hour A) (by decide) G_P_is_saying_is_hour ⟨((vaO Va.int) a_thing.ho), True.intro, rfl, rfl⟩ (a_cons (e_eq (e_sy2u hc_12 (e_var V_P_is_saying_0 rfl)) ((any_opt (fun x => (dA_int x).symm)) a_thing.ho)) a_nil (fun _ => rfl)) (fun _ => rfl))))) (fun _ _ _ h => h)
  exact ss_ret (e_and (e_cmp c_eqS (e_sy0 (e_var V_P_is_saying_0 rfl)) e_str rfl) (fun hb_15 => (e_bool1 (e_call (k_P_are_two A) (by decide) G_P_is_saying_are_two ⟨a_thing.who, a_thing.other, a_persons, True.intro, rfl, rfl⟩ (a_cons (e_sy1 (e_var V_P_is_saying_0 rfl)) (a_cons (e_sy2b hb_15 (e_var V_P_is_saying_0 rfl)) (a_cons (e_var V_P_is_saying_1 rfl) a_nil (fun _ => rfl)) (fun _ => rfl)) (fun _ => rfl)) (fun _ => rfl))))) (fun _ _ _ h => h)
theorem k_P_is_saying {G : Cfg} (A : All G) : Callee G 3 "is_saying" (sp_P_is_saying G) := by
  refine A.d_P_is_saying.callee (N := N_P_is_saying) (ps := ["thing", "persons"]) (scope_of rfl rfl rfl (by decide +kernel)) (fun ds O rk h => ?_) (fun _ _ _ _ _ _ us hl => match us, hl with | [_, _], _ => rfl) (fun ds O rk h => ?_)
  · obtain ⟨a_thing, a_persons, hp, rfl, rfl⟩ := h; rfl
  · obtain ⟨a_thing, a_persons, hp, rfl, rfl⟩ := h; exact ⟨_, _, _, _, b_P_is_saying A O a_thing a_persons, rfl⟩
def N_P_are_all_at_is_saying : List Str := ["thing", "most", "persons", "fits", "one"]
def C_P_are_all_at_is_saying : Sc := ⟨3, N_P_are_all_at_is_saying, defScope (top 25), true, true⟩
instance : Calm C_P_are_all_at_is_saying := ⟨rfl⟩
theorem V_P_are_all_at_is_saying_0 : Var C_P_are_all_at_is_saying 0 "thing" := var_of (by decide +kernel)
theorem V_P_are_all_at_is_saying_1 : Var C_P_are_all_at_is_saying 1 "most" := var_of (by decide +kernel)
theorem V_P_are_all_at_is_saying_2 : Var C_P_are_all_at_is_saying 2 "persons" := var_of (by decide +kernel)
theorem V_P_are_all_at_is_saying_3 : Var C_P_are_all_at_is_saying 3 "fits" := var_of (by decide +kernel)
theorem V_P_are_all_at_is_saying_4 : Var C_P_are_all_at_is_saying 4 "one" := var_of (by decide +kernel)
theorem S_P_are_all_at_is_saying_4 : Loca C_P_are_all_at_is_saying 4 "one" := loc_of (by decide +kernel)
theorem G_P_are_all_at_is_saying_isinstance : Glo C_P_are_all_at_is_saying "isinstance" := glo_of (by decide +kernel)
theorem G_P_are_all_at_is_saying_len : Glo C_P_are_all_at_is_saying "len" := glo_of (by decide +kernel)
theorem G_P_are_all_at_is_saying_list : Glo C_P_are_all_at_is_saying "list" := glo_of (by decide +kernel)
theorem b_P_are_all_at_is_saying {G : Cfg} (A : All G) (O : Own) (a_thing : (List Sy)) (a_most : Int) (a_persons : (List Str)) : SS G C_P_are_all_at_is_saying (defBody (top 25)) (frame0 N_P_are_all_at_is_saying [(dLo G.K (dSy G.K)) a_thing, dI a_most, (dLo G.K dS) a_persons, dFn G 3 (sp_P_is_saying G)]) O (fnV dB O) (.rt (m_P_are_all_at_is_saying a_thing a_most a_persons)) := by
  unfold m_P_are_all_at_is_saying
  refine ss_when .rt (t_w (w_or (t_not (t_val (e_callB (k_isi (b := true) ty_lst (by decide +kernel)) G_P_are_all_at_is_saying_isinstance A.b_isinstance bt_isinstance (a_cons (e_var V_P_are_all_at_is_saying_0 rfl) (a_cons (e_tyname G_P_are_all_at_is_saying_list A.b_list bt_list) a_nil (fun _ => rfl)) (fun _ => rfl)) (fun _ => rfl)) (fun _ _ => rfl))) (fun hb_1 => (w_or1 (t_cmp c_gt (e_callB (k_lenLo (xs := a_thing) (f := (dSy G.K))) G_P_are_all_at_is_saying_len A.b_len bt_len (a_cons (e_var V_P_are_all_at_is_saying_0 rfl) a_nil (fun _ => rfl)) (fun _ => rfl)) (e_var V_P_are_all_at_is_saying_1 rfl) rfl))))) (fun _ => nofun) (fun hc_3 => ?_) (fun hc_3 => ?_)
  ·
    exact ss_ret e_bool (fun _ _ _ h => h)
  refine ss_loop (Γ := [some ((dLo G.K (dSy G.K)) a_thing), some (dI a_most), some ((dLo G.K dS) a_persons), some (dFn G 3 (sp_P_is_saying G)), none]) (df := (dSy G.K)) (s0 := ()) (fun s_4 : Unit => [some ((dLo G.K (dSy G.K)) a_thing), some (dI a_most), some ((dLo G.K dS) a_persons), some (dFn G 3 (sp_P_is_saying G)), none]) (fun (s_4 : Unit) (x_5 : Sy) => ([some ((dLo G.K (dSy G.K)) a_thing), some (dI a_most), some ((dLo G.K dS) a_persons), some (dFn G 3 (sp_P_is_saying G)), none]).set 4 (some ((dSy G.K) x_5))) (fun s_4 : Unit => O) (ei_list (e_var V_P_are_all_at_is_saying_0 rfl)) (by exact ⟨.inr rfl, .inr rfl, .inr rfl, .inr rfl, .inl rfl, trivial⟩) rfl (fun _ => trivial) (fun s_4 x_5 => (tj_name S_P_are_all_at_is_saying_4)) ?_ ?_ (fun _ _ => rfl)
  ·
    intro s_4 x_5 pre_6 post_7 hs_8 hf_9
    have hm_10 : x_5 ∈ a_thing := by rw [hs_8]; simp
    have hpl_11 : pre_6.length < (a_thing).length := by rw [hs_8, List.length_append, List.length_cons]; omega
    refine ss_if Ret.out (t_not (t_val (e_callL V_P_are_all_at_is_saying_3 rfl (by decide) ⟨x_5, a_persons, True.intro, rfl, rfl⟩ (a_cons (e_var V_P_are_all_at_is_saying_4 rfl) (a_cons (e_var V_P_are_all_at_is_saying_2 rfl) a_nil (fun _ => rfl)) (fun _ => rfl)) (fun _ => rfl)) (fun _ _ => rfl))) (fun hc_12 => ?_) (fun hc_12 => ?_)
    ·
      exact ss_ret e_bool (fun _ _ _ h => h)
    ·
      exact ss_end (hold_end (by exact ⟨.inr rfl, .inr rfl, .inr rfl, .inr rfl, .inl rfl, trivial⟩))
  intro s_4 he_L0
  exact ss_ret e_bool (fun _ _ _ h => h)
theorem k_P_are_all_at_is_saying {G : Cfg} (A : All G) : Callee G 4 "are_all" (sp_P_are_all_at_is_saying G) := by
  refine A.d_P_are_all.callee (N := N_P_are_all_at_is_saying) (ps := ["thing", "most", "persons", "fits"]) (scope_of rfl rfl rfl (by decide +kernel)) (fun ds O rk h => ?_) (fun _ _ _ _ _ _ us hl => match us, hl with | [_, _, _, _], _ => rfl) (fun ds O rk h => ?_)
  · obtain ⟨a_thing, a_most, a_persons, hp, rfl, rfl⟩ := h; rfl
  · obtain ⟨a_thing, a_most, a_persons, hp, rfl, rfl⟩ := h; exact ⟨_, _, _, _, b_P_are_all_at_is_saying A O a_thing a_most a_persons, rfl⟩
def N_P_Book_at_own : List Str := ["self", "persons", "sights", "talks", "sayings"]
def C_P_Book_at_own : Sc := ⟨5, N_P_Book_at_own, defScope (inClass (top 26) 0), true, true⟩
instance : Calm C_P_Book_at_own := ⟨rfl⟩
theorem V_P_Book_at_own_0 : Var C_P_Book_at_own 0 "self" := var_of (by decide +kernel)
theorem V_P_Book_at_own_1 : Var C_P_Book_at_own 1 "persons" := var_of (by decide +kernel)
theorem V_P_Book_at_own_2 : Var C_P_Book_at_own 2 "sights" := var_of (by decide +kernel)
theorem V_P_Book_at_own_3 : Var C_P_Book_at_own 3 "talks" := var_of (by decide +kernel)
theorem V_P_Book_at_own_4 : Var C_P_Book_at_own 4 "sayings" := var_of (by decide +kernel)
theorem G_P_Book_at_own_MOST_SAYINGS : Glo C_P_Book_at_own "MOST_SAYINGS" := glo_of (by decide +kernel)
theorem G_P_Book_at_own_MOST_SIGHTS : Glo C_P_Book_at_own "MOST_SIGHTS" := glo_of (by decide +kernel)
theorem G_P_Book_at_own_MOST_TALKS : Glo C_P_Book_at_own "MOST_TALKS" := glo_of (by decide +kernel)
theorem G_P_Book_at_own_are_all : Glo C_P_Book_at_own "are_all" := glo_of (by decide +kernel)
theorem G_P_Book_at_own_are_persons : Glo C_P_Book_at_own "are_persons" := glo_of (by decide +kernel)
theorem G_P_Book_at_own_is_saying : Glo C_P_Book_at_own "is_saying" := glo_of (by decide +kernel)
theorem G_P_Book_at_own_is_sight : Glo C_P_Book_at_own "is_sight" := glo_of (by decide +kernel)
theorem G_P_Book_at_own_is_talk : Glo C_P_Book_at_own "is_talk" := glo_of (by decide +kernel)
theorem G_P_Book_at_own_list : Glo C_P_Book_at_own "list" := glo_of (by decide +kernel)
theorem b_P_Book_at_own {G : Cfg} (A : All G) (O : Own) (p : Addr) (a_persons : (List Str)) (a_sights : (List (Str × Int × (List Str)))) (a_talks : (List (Int × Str × Str × Str))) (a_sayings : (List Sy)) (hpre : goodBook a_persons a_sights a_talks a_sayings) : SS G C_P_Book_at_own (defBody (inClass (top 26) 0)) (frame0 N_P_Book_at_own [dP p, (dLo G.K dS) a_persons, (dLo G.K (dT3 G.K dS dI (dVt G.K dS))) a_sights, (dLo G.K (dT4 G.K dI dS dS dS)) a_talks, (dLo G.K (dSy G.K)) a_sayings]) ((p, oIns G "Book" [] []) :: O) (⟨fun r : ((List Str) × (List (Str × Int × (List Str))) × (List (Int × Str × Str × Str)) × (List Sy)) => SD.own (fun O' => ∃ (p_0 : Addr) (p_1 : Addr) (p_2 : Addr) (p_3 : Addr), O' = (p, oIns G "Book" ["crew", "views", "meetings", "claims"] [dP p_0, dP p_1, dP p_2, dP p_3]) :: (p_0, oLst (r.1.map dS)) :: (p_1, oLst (r.2.1.map (dT3 G.K dS dI (dVt G.K dS)))) :: (p_2, oLst (r.2.2.1.map (dT4 G.K dI dS dS dS))) :: (p_3, oLst (r.2.2.2.map (dSy G.K))) :: O), fun e : Empty => e.elim, fun _ => XD.no⟩) (.nx (m_P_Book_at_own a_persons a_sights a_talks a_sayings)) := by
  unfold m_P_Book_at_own
  refine ss_skip (t_eq (t_not (t_val (e_call (k_P_are_persons A) (by decide) G_P_Book_at_own_are_persons ⟨a_persons, True.intro, rfl, rfl⟩ (a_cons (e_var V_P_Book_at_own_1 rfl) a_nil (fun _ => rfl)) (fun _ => rfl)) (fun _ _ => rfl))) (b := (!(m_P_are_persons a_persons))) (by rw [hpre.1]; rfl)) ?_
  refine ss_skip (t_eq (t_not (t_val (e_call (k_P_are_all_at_is_sight A) (by decide) G_P_Book_at_own_are_all ⟨a_sights, (24 : Int), a_persons, True.intro, rfl, rfl⟩ (a_cons (e_var V_P_Book_at_own_2 rfl) (a_cons (e_globI G_P_Book_at_own_MOST_SIGHTS A.c_MOST_SIGHTS) (a_cons (e_var V_P_Book_at_own_1 rfl) (a_cons (e_fn (k_P_is_sight A) G_P_Book_at_own_is_sight) a_nil (fun _ => rfl)) (fun _ => rfl)) (fun _ => rfl)) (fun _ => rfl)) (fun _ => rfl)) (fun _ _ => rfl))) (b := (!(m_P_are_all_at_is_sight a_sights (24 : Int) a_persons))) (by rw [hpre.2.1]; rfl)) ?_
  refine ss_skip (t_eq (t_not (t_val (e_call (k_P_are_all_at_is_talk A) (by decide) G_P_Book_at_own_are_all ⟨a_talks, (120 : Int), a_persons, True.intro, rfl, rfl⟩ (a_cons (e_var V_P_Book_at_own_3 rfl) (a_cons (e_globI G_P_Book_at_own_MOST_TALKS A.c_MOST_TALKS) (a_cons (e_var V_P_Book_at_own_1 rfl) (a_cons (e_fn (k_P_is_talk A) G_P_Book_at_own_is_talk) a_nil (fun _ => rfl)) (fun _ => rfl)) (fun _ => rfl)) (fun _ => rfl)) (fun _ => rfl)) (fun _ _ => rfl))) (b := (!(m_P_are_all_at_is_talk a_talks (120 : Int) a_persons))) (by rw [hpre.2.2.1]; rfl)) ?_
  refine ss_skip (t_eq (t_not (t_val (e_call (k_P_are_all_at_is_saying A) (by decide) G_P_Book_at_own_are_all ⟨a_sayings, (60 : Int), a_persons, True.intro, rfl, rfl⟩ (a_cons (e_var V_P_Book_at_own_4 rfl) (a_cons (e_globI G_P_Book_at_own_MOST_SAYINGS A.c_MOST_SAYINGS) (a_cons (e_var V_P_Book_at_own_1 rfl) (a_cons (e_fn (k_P_is_saying A) G_P_Book_at_own_is_saying) a_nil (fun _ => rfl)) (fun _ => rfl)) (fun _ => rfl)) (fun _ => rfl)) (fun _ => rfl)) (fun _ _ => rfl))) (b := (!(m_P_are_all_at_is_saying a_sayings (60 : Int) a_persons))) (by rw [hpre.2.2.2]; rfl)) ?_
  refine ss_fldN (n := 0) rfl (en_callT k_listL G_P_Book_at_own_list A.b_list bt_list (a_cons (e_var V_P_Book_at_own_1 rfl) a_nil (fun _ => rfl)) (fun _ => rfl)) (fun _ => e_var V_P_Book_at_own_0 rfl) (by decide +kernel) A.a_Book_crew (by decide) (fun _ => rfl) ?_
  intro p_crew_1
  refine ss_fldN (n := 1) rfl (en_callT k_listL G_P_Book_at_own_list A.b_list bt_list (a_cons (e_var V_P_Book_at_own_2 rfl) a_nil (fun _ => rfl)) (fun _ => rfl)) (fun _ => e_var V_P_Book_at_own_0 rfl) (by decide +kernel) A.a_Book_views (by decide) (fun _ => rfl) ?_
  intro p_views_2
  refine ss_fldN (n := 2) rfl (en_callT k_listL G_P_Book_at_own_list A.b_list bt_list (a_cons (e_var V_P_Book_at_own_3 rfl) a_nil (fun _ => rfl)) (fun _ => rfl)) (fun _ => e_var V_P_Book_at_own_0 rfl) (by decide +kernel) A.a_Book_meetings (by decide) (fun _ => rfl) ?_
  intro p_meetings_3
  refine ss_fldN (n := 3) rfl (en_callT k_listL G_P_Book_at_own_list A.b_list bt_list (a_cons (e_var V_P_Book_at_own_4 rfl) a_nil (fun _ => rfl)) (fun _ => rfl)) (fun _ => e_var V_P_Book_at_own_0 rfl) (by decide +kernel) A.a_Book_claims (by decide) (fun _ => rfl) ?_
  intro p_claims_4
  refine ss_pull (n := 0) rfl ?_
  refine ss_pull (n := 1) rfl ?_
  refine ss_pull (n := 2) rfl ?_
  refine ss_pull (n := 3) rfl ?_
  refine ss_pull (n := 4) rfl ?_
  exact ss_nil (fun F σ H hh => ⟨F, _, ⟨p_crew_1, p_views_2, p_meetings_3, p_claims_4, rfl⟩, Gw.refl F, hh.ho⟩)
theorem k_P_Book_at_own {G : Cfg} (A : All G) : CalI G 6 "Book" (sp_P_Book_at_own G) := by
  refine A.i_Book.callee (N := N_P_Book_at_own) (ps := ["self", "persons", "sights", "talks", "sayings"]) (scope_of rfl rfl rfl (by decide +kernel)) (fun ds O rk h => ?_) (fun _ _ _ _ _ _ us hl => match us, hl with | [_, _, _, _, _], _ => rfl) (fun ds O rk h => ?_)
  · obtain ⟨p, O1, a_persons, a_sights, a_talks, a_sayings, hp, rfl, rfl, rfl⟩ := h; rfl
  · obtain ⟨p, O1, a_persons, a_sights, a_talks, a_sayings, hp, rfl, rfl, rfl⟩ := h; exact ⟨_, _, _, _, b_P_Book_at_own A O1 p a_persons a_sights a_talks a_sayings hp, fun F σ H ⟨F2, O', e1, e2, h2⟩ => ⟨rfl, F2, O', e1, e2, h2⟩⟩
def N_P_Book_persons : List Str := ["self"]
def C_P_Book_persons : Sc := ⟨0, N_P_Book_persons, defScope (inClass (top 26) 1), true, true⟩
instance : Calm C_P_Book_persons := ⟨rfl⟩
theorem V_P_Book_persons_0 : Var C_P_Book_persons 0 "self" := var_of (by decide +kernel)
theorem G_P_Book_persons_list : Glo C_P_Book_persons "list" := glo_of (by decide +kernel)
theorem b_P_Book_persons {G : Cfg} (A : All G) (O : Own) (a_self : BookV) : SS G C_P_Book_persons (defBody (inClass (top 26) 1)) (frame0 N_P_Book_persons [(dBook G) a_self]) O (fnN (fun r => oLst (List.map dS r)) O) (.rt (m_P_Book_persons a_self)) := by
  unfold m_P_Book_persons
  exact ss_retN (en_callT k_listL G_P_Book_persons_list A.b_list bt_list (a_cons (e_fld (i := 0) (e_var V_P_Book_persons_0 rfl) (by decide +kernel) rfl rfl A.a_Book_crew (fun _ => rfl)) a_nil (fun _ => rfl)) (fun _ => rfl)) (fun _ _ _ h => h)
theorem k_P_Book_persons {G : Cfg} (A : All G) : CalM G 1 "Book" "persons" (sp_P_Book_persons G) := by
  refine A.d_P_Book_persons.callee (N := N_P_Book_persons) (ps := ["self"]) (scope_of rfl rfl rfl (by decide +kernel)) (fun ds O rk h => ?_) (fun _ _ _ _ _ _ us hl => match us, hl with | [_], _ => rfl) (fun ds O rk h => ?_)
  · obtain ⟨a_self, hp, rfl, rfl⟩ := h; rfl
  · obtain ⟨a_self, hp, rfl, rfl⟩ := h; exact ⟨_, _, _, _, b_P_Book_persons A O a_self, rfl⟩
def N_P_Book_sights : List Str := ["self"]
def C_P_Book_sights : Sc := ⟨0, N_P_Book_sights, defScope (inClass (top 26) 2), true, true⟩
instance : Calm C_P_Book_sights := ⟨rfl⟩
theorem V_P_Book_sights_0 : Var C_P_Book_sights 0 "self" := var_of (by decide +kernel)
theorem G_P_Book_sights_list : Glo C_P_Book_sights "list" := glo_of (by decide +kernel)
theorem b_P_Book_sights {G : Cfg} (A : All G) (O : Own) (a_self : BookV) : SS G C_P_Book_sights (defBody (inClass (top 26) 2)) (frame0 N_P_Book_sights [(dBook G) a_self]) O (fnN (fun r => oLst (List.map (dT3 G.K dS dI (dVt G.K dS)) r)) O) (.rt (m_P_Book_sights a_self)) := by
  unfold m_P_Book_sights
  exact ss_retN (en_callT k_listL G_P_Book_sights_list A.b_list bt_list (a_cons (e_fld (i := 1) (e_var V_P_Book_sights_0 rfl) (by decide +kernel) rfl rfl A.a_Book_views (fun _ => rfl)) a_nil (fun _ => rfl)) (fun _ => rfl)) (fun _ _ _ h => h)
theorem k_P_Book_sights {G : Cfg} (A : All G) : CalM G 1 "Book" "sights" (sp_P_Book_sights G) := by
  refine A.d_P_Book_sights.callee (N := N_P_Book_sights) (ps := ["self"]) (scope_of rfl rfl rfl (by decide +kernel)) (fun ds O rk h => ?_) (fun _ _ _ _ _ _ us hl => match us, hl with | [_], _ => rfl) (fun ds O rk h => ?_)
  · obtain ⟨a_self, hp, rfl, rfl⟩ := h; rfl
  · obtain ⟨a_self, hp, rfl, rfl⟩ := h; exact ⟨_, _, _, _, b_P_Book_sights A O a_self, rfl⟩
def N_P_Book_talks : List Str := ["self"]
def C_P_Book_talks : Sc := ⟨0, N_P_Book_talks, defScope (inClass (top 26) 3), true, true⟩
instance : Calm C_P_Book_talks := ⟨rfl⟩
theorem V_P_Book_talks_0 : Var C_P_Book_talks 0 "self" := var_of (by decide +kernel)
theorem G_P_Book_talks_list : Glo C_P_Book_talks "list" := glo_of (by decide +kernel)
theorem b_P_Book_talks {G : Cfg} (A : All G) (O : Own) (a_self : BookV) : SS G C_P_Book_talks (defBody (inClass (top 26) 3)) (frame0 N_P_Book_talks [(dBook G) a_self]) O (fnN (fun r => oLst (List.map (dT4 G.K dI dS dS dS) r)) O) (.rt (m_P_Book_talks a_self)) := by
  unfold m_P_Book_talks
  exact ss_retN (en_callT k_listL G_P_Book_talks_list A.b_list bt_list (a_cons (e_fld (i := 2) (e_var V_P_Book_talks_0 rfl) (by decide +kernel) rfl rfl A.a_Book_meetings (fun _ => rfl)) a_nil (fun _ => rfl)) (fun _ => rfl)) (fun _ _ _ h => h)
theorem k_P_Book_talks {G : Cfg} (A : All G) : CalM G 1 "Book" "talks" (sp_P_Book_talks G) := by
  refine A.d_P_Book_talks.callee (N := N_P_Book_talks) (ps := ["self"]) (scope_of rfl rfl rfl (by decide +kernel)) (fun ds O rk h => ?_) (fun _ _ _ _ _ _ us hl => match us, hl with | [_], _ => rfl) (fun ds O rk h => ?_)
  · obtain ⟨a_self, hp, rfl, rfl⟩ := h; rfl
  · obtain ⟨a_self, hp, rfl, rfl⟩ := h; exact ⟨_, _, _, _, b_P_Book_talks A O a_self, rfl⟩
def N_P_Book_sayings : List Str := ["self"]
def C_P_Book_sayings : Sc := ⟨0, N_P_Book_sayings, defScope (inClass (top 26) 4), true, true⟩
instance : Calm C_P_Book_sayings := ⟨rfl⟩
theorem V_P_Book_sayings_0 : Var C_P_Book_sayings 0 "self" := var_of (by decide +kernel)
theorem G_P_Book_sayings_list : Glo C_P_Book_sayings "list" := glo_of (by decide +kernel)
theorem b_P_Book_sayings {G : Cfg} (A : All G) (O : Own) (a_self : BookV) : SS G C_P_Book_sayings (defBody (inClass (top 26) 4)) (frame0 N_P_Book_sayings [(dBook G) a_self]) O (fnN (fun r => oLst (List.map (dSy G.K) r)) O) (.rt (m_P_Book_sayings a_self)) := by
  unfold m_P_Book_sayings
  exact ss_retN (en_callT k_listL G_P_Book_sayings_list A.b_list bt_list (a_cons (e_fld (i := 3) (e_var V_P_Book_sayings_0 rfl) (by decide +kernel) rfl rfl A.a_Book_claims (fun _ => rfl)) a_nil (fun _ => rfl)) (fun _ => rfl)) (fun _ _ _ h => h)
theorem k_P_Book_sayings {G : Cfg} (A : All G) : CalM G 1 "Book" "sayings" (sp_P_Book_sayings G) := by
  refine A.d_P_Book_sayings.callee (N := N_P_Book_sayings) (ps := ["self"]) (scope_of rfl rfl rfl (by decide +kernel)) (fun ds O rk h => ?_) (fun _ _ _ _ _ _ us hl => match us, hl with | [_], _ => rfl) (fun ds O rk h => ?_)
  · obtain ⟨a_self, hp, rfl, rfl⟩ := h; rfl
  · obtain ⟨a_self, hp, rfl, rfl⟩ := h; exact ⟨_, _, _, _, b_P_Book_sayings A O a_self, rfl⟩
def N_L_told_at_own : List Str := ["_law_book_here"]
def C_L_told_at_own : Sc := ⟨1, N_L_told_at_own, defScope (top 35), true, true⟩
instance : Calm C_L_told_at_own := ⟨rfl⟩
theorem V_L_told_at_own_0 : Var C_L_told_at_own 0 "_law_book_here" := var_of (by decide +kernel)
theorem b_L_told_at_own {G : Cfg} (A : All G) (O : Own) (a_book_here : BookV) : SS G C_L_told_at_own (defBody (top 35)) (frame0 N_L_told_at_own [(dBook G) a_book_here]) O (fnS (fun r => (fun O' d => ∃ (p_0 : Addr) (p_1 : Addr) (p_2 : Addr) (p_3 : Addr), O' = (p_3, oLst (r.2.2.2.map (dSy G.K))) :: (p_2, oLst (r.2.2.1.map (dT4 G.K dI dS dS dS))) :: (p_1, oLst (r.2.1.map (dT3 G.K dS dI (dVt G.K dS)))) :: (p_0, oLst (r.1.map dS)) :: O ∧ d = dLst G.K [dP p_0, dP p_1, dP p_2, dP p_3]))) (.rt (m_L_told_at_own a_book_here)) := by
  unfold m_L_told_at_own
  refine ss_retT (et_lst (an_new (en_meth0 (k_P_Book_persons A) (by decide) (e_var V_L_told_at_own_0 rfl) (by decide +kernel) ⟨a_book_here, True.intro, rfl, rfl⟩ (fun _ => ⟨_, rfl⟩)) (fun p_1 => (an_new (en_meth0 (k_P_Book_sights A) (by decide) (e_var V_L_told_at_own_0 rfl) (by decide +kernel) ⟨a_book_here, True.intro, rfl, rfl⟩ (fun _ => ⟨_, rfl⟩)) (fun p_2 => (an_new (en_meth0 (k_P_Book_talks A) (by decide) (e_var V_L_told_at_own_0 rfl) (by decide +kernel) ⟨a_book_here, True.intro, rfl, rfl⟩ (fun _ => ⟨_, rfl⟩)) (fun p_3 => (an_new (en_meth0 (k_P_Book_sayings A) (by decide) (e_var V_L_told_at_own_0 rfl) (by decide +kernel) ⟨a_book_here, True.intro, rfl, rfl⟩ (fun _ => ⟨_, rfl⟩)) (fun p_4 => an_nil) (fun _ => rfl))) (fun _ => rfl))) (fun _ => rfl))) (fun _ => rfl)) (fun R h => by (repeat' (intro p; specialize h p)); exact ⟨h, Nat.le_of_ble_eq_true rfl⟩)) ?_
  intro p_1 p_2 p_3 p_4
  exact fun F v H ⟨F2, e2, h2, d2⟩ => ⟨F2, _, _, ⟨_, _, _, _, rfl, rfl⟩, e2, h2, d2⟩
theorem k_L_told_at_own {G : Cfg} (A : All G) : Callee G 2 "_law_told" (sp_L_told_at_own G) := by
  refine A.d_L_told.callee (N := N_L_told_at_own) (ps := ["_law_book_here"]) (scope_of rfl rfl rfl (by decide +kernel)) (fun ds O rk h => ?_) (fun _ _ _ _ _ _ us hl => match us, hl with | [_], _ => rfl) (fun ds O rk h => ?_)
  · obtain ⟨a_book_here, hp, rfl, rfl⟩ := h; rfl
  · obtain ⟨a_book_here, hp, rfl, rfl⟩ := h; exact ⟨_, _, _, _, b_L_told_at_own A O a_book_here, rfl⟩
def N_L_alike : List Str := ["_law_found", "_law_due", "_law_one", "_law_two"]
def C_L_alike : Sc := ⟨4, N_L_alike, defScope (top 34), true, true⟩
instance : Calm C_L_alike := ⟨rfl⟩
theorem V_L_alike_0 : Var C_L_alike 0 "_law_found" := var_of (by decide +kernel)
theorem V_L_alike_1 : Var C_L_alike 1 "_law_due" := var_of (by decide +kernel)
theorem V_L_alike_2 : Var C_L_alike 2 "_law_one" := var_of (by decide +kernel)
theorem V_L_alike_3 : Var C_L_alike 3 "_law_two" := var_of (by decide +kernel)
theorem S_L_alike_2 : Loca C_L_alike 2 "_law_one" := loc_of (by decide +kernel)
theorem S_L_alike_3 : Loca C_L_alike 3 "_law_two" := loc_of (by decide +kernel)
theorem G_L_alike_bool : Glo C_L_alike "bool" := glo_of (by decide +kernel)
theorem G_L_alike_int : Glo C_L_alike "int" := glo_of (by decide +kernel)
theorem G_L_alike_isinstance : Glo C_L_alike "isinstance" := glo_of (by decide +kernel)
theorem G_L_alike_len : Glo C_L_alike "len" := glo_of (by decide +kernel)
theorem G_L_alike_list : Glo C_L_alike "list" := glo_of (by decide +kernel)
theorem G_L_alike_str : Glo C_L_alike "str" := glo_of (by decide +kernel)
theorem G_L_alike_tuple : Glo C_L_alike "tuple" := glo_of (by decide +kernel)
theorem G_L_alike_zip : Glo C_L_alike "zip" := glo_of (by decide +kernel)
abbrev Cn_L_alike (k : Nat) : Sc := ⟨k, N_L_alike, defScope (top 34), true, true⟩
instance {k : Nat} : Calm (Cn_L_alike k) := ⟨rfl⟩
theorem b_L_alike {G : Cfg} (A : All G) (O : Own) (rec : Va → Va → Bool) (n k : Nat) (a_found a_due : Va) (hf : Fit n a_found) (hd : Fit n a_due) (hn : n ≤ 60) (hrec : ∀ (x y : Va) (Γ : Fr) (O : Own) {a b : Expr} {p1 pos : Pos}, x ∈ a_found.items → y ∈ a_due.items → E G (Cn_L_alike k) a Γ O (dA G.K x) → E G (Cn_L_alike k) b Γ O (dA G.K y) → (∀ env, starEach [a, b] env = (false, eval a env) :: starEach [b] env) → (∀ env, starEach [b] env = (false, eval b env) :: starEach [] env) → E G (Cn_L_alike k) (.Call (.Name "_law_alike" p1) [a, b] [] pos) Γ O (dB (rec x y))) : SS G (Cn_L_alike k) (defBody (top 34)) (frame0 N_L_alike [(dA G.K) a_found, (dA G.K) a_due]) O (fnV dB O) (.rt (m_L_alike rec a_found a_due)) := by
  unfold m_L_alike
  refine ss_when .rt (t_w (w_or (t_val (e_callB (k_isA kit_str) (G_L_alike_isinstance).at A.b_isinstance bt_isinstance (a_cons (e_var ((V_L_alike_1).at) rfl) (a_cons (e_tyname (G_L_alike_str).at A.b_str bt_str) a_nil (fun _ => rfl)) (fun _ => rfl)) (fun _ => rfl)) (fun _ _ => rfl)) (fun hb_1 => (w_or1 (t_cmp c_isAny (e_var ((V_L_alike_1).at) rfl) e_none rfl))))) (fun _ => nofun) (fun hc_3 => ?_) (fun hc_3 => ?_)
  ·
    exact ss_ret (e_and (e_cmp c_eqB (e_callB (k_isA kit_str) (G_L_alike_isinstance).at A.b_isinstance bt_isinstance (a_cons (e_var ((V_L_alike_0).at) rfl) (a_cons (e_tyname (G_L_alike_str).at A.b_str bt_str) a_nil (fun _ => rfl)) (fun _ => rfl)) (fun _ => rfl)) (e_callB (k_isA kit_str) (G_L_alike_isinstance).at A.b_isinstance bt_isinstance (a_cons (e_var ((V_L_alike_1).at) rfl) (a_cons (e_tyname (G_L_alike_str).at A.b_str bt_str) a_nil (fun _ => rfl)) (fun _ => rfl)) (fun _ => rfl)) rfl) (fun hb_4 => (e_bool1 (e_cmp (c_eqA (by trivial) (by trivial) (by omega)) (e_var ((V_L_alike_0).at) rfl) (e_var ((V_L_alike_1).at) rfl) rfl)))) (fun _ _ _ h => h)
  refine ss_when .rt (t_val (e_callB (k_isA kit_int) (G_L_alike_isinstance).at A.b_isinstance bt_isinstance (a_cons (e_var ((V_L_alike_1).at) rfl) (a_cons (e_tyname (G_L_alike_int).at A.b_int bt_int) a_nil (fun _ => rfl)) (fun _ => rfl)) (fun _ => rfl)) (fun _ _ => rfl)) (fun _ => nofun) (fun hc_6 => ?_) (fun hc_6 => ?_)
  ·
    exact ss_ret (e_and (e_callB (k_isA kit_int) (G_L_alike_isinstance).at A.b_isinstance bt_isinstance (a_cons (e_var ((V_L_alike_0).at) rfl) (a_cons (e_tyname (G_L_alike_int).at A.b_int bt_int) a_nil (fun _ => rfl)) (fun _ => rfl)) (fun _ => rfl)) (fun hb_7 => (e_and (e_not (e_callB (k_isA kit_bool) (G_L_alike_isinstance).at A.b_isinstance bt_isinstance (a_cons (e_var ((V_L_alike_0).at) rfl) (a_cons (e_tyname (G_L_alike_bool).at A.b_bool bt_bool) a_nil (fun _ => rfl)) (fun _ => rfl)) (fun _ => rfl))) (fun hb_8 => (e_bool1 (e_cmp (c_eqA (by trivial) (by trivial) (by omega)) (e_var ((V_L_alike_0).at) rfl) (e_var ((V_L_alike_1).at) rfl) rfl)))))) (fun _ _ _ h => h)
  refine ss_when .rt (t_w (w_or (t_cmp c_neB (e_callB (k_isA kit_tuple) (G_L_alike_isinstance).at A.b_isinstance bt_isinstance (a_cons (e_var ((V_L_alike_1).at) rfl) (a_cons (e_tyname (G_L_alike_tuple).at A.b_tuple bt_tuple) a_nil (fun _ => rfl)) (fun _ => rfl)) (fun _ => rfl)) (e_callB (k_isA kit_tuple) (G_L_alike_isinstance).at A.b_isinstance bt_isinstance (a_cons (e_var ((V_L_alike_0).at) rfl) (a_cons (e_tyname (G_L_alike_tuple).at A.b_tuple bt_tuple) a_nil (fun _ => rfl)) (fun _ => rfl)) (fun _ => rfl)) rfl) (fun hb_10 => (w_or1 (t_cmp c_neB (e_callB (k_isA kit_list) (G_L_alike_isinstance).at A.b_isinstance bt_isinstance (a_cons (e_var ((V_L_alike_1).at) rfl) (a_cons (e_tyname (G_L_alike_list).at A.b_list bt_list) a_nil (fun _ => rfl)) (fun _ => rfl)) (fun _ => rfl)) (e_callB (k_isA kit_list) (G_L_alike_isinstance).at A.b_isinstance bt_isinstance (a_cons (e_var ((V_L_alike_0).at) rfl) (a_cons (e_tyname (G_L_alike_list).at A.b_list bt_list) a_nil (fun _ => rfl)) (fun _ => rfl)) (fun _ => rfl)) rfl))))) (fun _ => nofun) (fun hc_12 => ?_) (fun hc_12 => ?_)
  ·
    exact ss_ret e_bool (fun _ _ _ h => h)
  refine ss_when .rt (t_cmp c_neI (e_callB (k_lenA (held1 (held2 hc_12 (held hd hc_3 hc_6)))) (G_L_alike_len).at A.b_len bt_len (a_cons (e_var ((V_L_alike_0).at) rfl) a_nil (fun _ => rfl)) (fun _ => rfl)) (e_callB (k_lenA (held hd hc_3 hc_6)) (G_L_alike_len).at A.b_len bt_len (a_cons (e_var ((V_L_alike_1).at) rfl) a_nil (fun _ => rfl)) (fun _ => rfl)) rfl) (fun _ => nofun) (fun hc_13 => ?_) (fun hc_13 => ?_)
  ·
    exact ss_ret e_bool (fun _ _ _ h => h)
  refine ss_loop (Γ := [some ((dA G.K) a_found), some ((dA G.K) a_due), none, none]) (df := (dT2 G.K (dA G.K) (dA G.K))) (s0 := ()) (fun s_14 : Unit => [some ((dA G.K) a_found), some ((dA G.K) a_due), none, none]) (fun (s_14 : Unit) (x_15 : (Va × Va)) => (([some ((dA G.K) a_found), some ((dA G.K) a_due), none, none]).set 2 (some ((dA G.K) x_15.1))).set 3 (some ((dA G.K) x_15.2))) (fun s_14 : Unit => O) (ei_zipA (G_L_alike_zip).at A.b_zip (e_var ((V_L_alike_0).at) rfl) (e_var ((V_L_alike_1).at) rfl) (held2 hc_12 (held hd hc_3 hc_6)) (fun _ => rfl) (fun _ => rfl)) (by exact ⟨.inr rfl, .inr rfl, .inl rfl, .inl rfl, trivial⟩) rfl (fun _ => trivial) (fun s_14 x_15 => (tj_tup (tjs_cons (tj_name (S_L_alike_2).at) (tjs_cons (tj_name (S_L_alike_3).at) tjs_nil (fun _ => rfl)) (fun _ => rfl)) (fun _ => rfl) (fun _ => rfl))) ?_ ?_ (fun _ _ => rfl)
  ·
    intro s_14 x_15 pre_16 post_17 hs_18 hf_19
    have hm_20 : x_15 ∈ (a_found.items.zip a_due.items) := by rw [hs_18]; simp
    have hpl_21 : pre_16.length < ((a_found.items.zip a_due.items)).length := by rw [hs_18, List.length_append, List.length_cons]; omega
    refine ss_if Ret.out (t_not (t_val (hrec _ _ _ _ (List.of_mem_zip hm_20).1 (List.of_mem_zip hm_20).2 (e_var ((V_L_alike_2).at) rfl) (e_var ((V_L_alike_3).at) rfl) (fun _ => rfl) (fun _ => rfl)) (fun _ _ => rfl))) (fun hc_22 => ?_) (fun hc_22 => ?_)
    ·
      exact ss_ret e_bool (fun _ _ _ h => h)
    ·
      exact ss_end (hold_end (by exact ⟨.inr rfl, .inr rfl, .inl rfl, .inl rfl, trivial⟩))
  intro s_14 he_L0
  exact ss_ret e_bool (fun _ _ _ h => h)
theorem kn_L_alike {G : Cfg} (A : All G) : ∀ n, n ≤ 60 → Callee G (n + 1) "_law_alike" (sn_L_alike n G)
  | 0, _ => by
    refine A.d_L_alike.callee (N := N_L_alike) (ps := ["_law_found", "_law_due"]) (scope_of rfl rfl rfl (by decide +kernel)) (fun ds O rk h => by obtain ⟨_, _, _, _, rfl, _⟩ := h; rfl) (fun _ _ _ _ _ _ us hl => match us, hl with | [_, _], _ => rfl) (fun ds O rk h => ?_)
    obtain ⟨x, y, hx, hy, rfl, rfl⟩ := h
    exact ⟨_, _, _, _, b_L_alike A O _ 0 0 x y hx hy (by omega) (fun x2 y2 Γ O a b p1 pos h1 => absurd h1 (by rw [fit0_items hx]; exact List.not_mem_nil)), rfl⟩
  | n + 1, hn => by
    have ih := kn_L_alike A n (by omega)
    refine A.d_L_alike.callee (N := N_L_alike) (ps := ["_law_found", "_law_due"]) (scope_of rfl rfl rfl (by decide +kernel)) (fun ds O rk h => by obtain ⟨_, _, _, _, rfl, _⟩ := h; rfl) (fun _ _ _ _ _ _ us hl => match us, hl with | [_, _], _ => rfl) (fun ds O rk h => ?_)
    obtain ⟨x, y, hx, hy, rfl, rfl⟩ := h
    exact ⟨_, _, _, _, b_L_alike A O _ (n + 1) (n + 1) x y hx hy hn (fun x2 y2 Γ O a b p1 pos h1 h2 ha hb hs hs2 => e_call ih (Nat.le_refl _) (glo_of (by decide +kernel) : Glo C_L_alike "_law_alike").at ⟨x2, y2, fit_items hx h1, fit_items hy h2, rfl, rfl⟩ (a_cons ha (a_cons hb a_nil hs2) hs) hs), rfl⟩
theorem k_L_alike {G : Cfg} (A : All G) : Callee G 5 "_law_alike" (sp_L_alike G) := kn_L_alike A 4 (by decide)
def N_L_told : List Str := ["_law_book_here"]
def C_L_told : Sc := ⟨1, N_L_told, defScope (top 35), true, true⟩
instance : Calm C_L_told := ⟨rfl⟩
theorem V_L_told_0 : Var C_L_told 0 "_law_book_here" := var_of (by decide +kernel)
theorem b_L_told {G : Cfg} (A : All G) (O : Own) (a_book_here : BookV) : SS G C_L_told (defBody (top 35)) (frame0 N_L_told [(dBook G) a_book_here]) O (fnV (fun x : ((List Str) × (List (Str × Int × (List Str))) × (List (Int × Str × Str × Str)) × (List Sy)) => dLst G.K [(dLo G.K dS) x.1, (dLo G.K (dT3 G.K dS dI (dVt G.K dS))) x.2.1, (dLo G.K (dT4 G.K dI dS dS dS)) x.2.2.1, (dLo G.K (dSy G.K)) x.2.2.2]) O) (.rt (m_L_told a_book_here)) := by
  unfold m_L_told
  exact ss_ret (en_lst (en_list (ds := [(dLo G.K dS) (m_P_Book_persons a_book_here), (dLo G.K (dT3 G.K dS dI (dVt G.K dS))) (m_P_Book_sights a_book_here), (dLo G.K (dT4 G.K dI dS dS dS)) (m_P_Book_talks a_book_here), (dLo G.K (dSy G.K)) (m_P_Book_sayings a_book_here)]) (a_cons (en_lst (en_meth0 (k_P_Book_persons A) (by decide) (e_var V_L_told_0 rfl) (by decide +kernel) ⟨a_book_here, True.intro, rfl, rfl⟩ (fun _ => ⟨_, rfl⟩))) (a_cons (en_lst (en_meth0 (k_P_Book_sights A) (by decide) (e_var V_L_told_0 rfl) (by decide +kernel) ⟨a_book_here, True.intro, rfl, rfl⟩ (fun _ => ⟨_, rfl⟩))) (a_cons (en_lst (en_meth0 (k_P_Book_talks A) (by decide) (e_var V_L_told_0 rfl) (by decide +kernel) ⟨a_book_here, True.intro, rfl, rfl⟩ (fun _ => ⟨_, rfl⟩))) (a_cons (en_lst (en_meth0 (k_P_Book_sayings A) (by decide) (e_var V_L_told_0 rfl) (by decide +kernel) ⟨a_book_here, True.intro, rfl, rfl⟩ (fun _ => ⟨_, rfl⟩))) a_nil (fun _ => rfl)) (fun _ => rfl)) (fun _ => rfl)) (fun _ => rfl)) (Nat.le_of_ble_eq_true rfl))) (fun _ _ _ h => h)
theorem k_L_told {G : Cfg} (A : All G) : Callee G 2 "_law_told" (sp_L_told G) := by
  refine A.d_L_told.callee (N := N_L_told) (ps := ["_law_book_here"]) (scope_of rfl rfl rfl (by decide +kernel)) (fun ds O rk h => ?_) (fun _ _ _ _ _ _ us hl => match us, hl with | [_], _ => rfl) (fun ds O rk h => ?_)
  · obtain ⟨a_book_here, hp, rfl, rfl⟩ := h; rfl
  · obtain ⟨a_book_here, hp, rfl, rfl⟩ := h; exact ⟨_, _, _, _, b_L_told A O a_book_here, rfl⟩
def N_L_law : List Str := ["_law_script", "_law_due", "_law_handed", "_law_part", "_law_book_here", "_law_told_here"]
def C_L_law : Sc := ⟨7, N_L_law, defScope (top 36), true, true⟩
instance : Calm C_L_law := ⟨rfl⟩
theorem nd_L_law : C_L_law.N.Nodup := by decide +kernel
theorem V_L_law_0 : Var C_L_law 0 "_law_script" := var_of (by decide +kernel)
theorem V_L_law_1 : Var C_L_law 1 "_law_due" := var_of (by decide +kernel)
theorem V_L_law_2 : Var C_L_law 2 "_law_handed" := var_of (by decide +kernel)
theorem V_L_law_3 : Var C_L_law 3 "_law_part" := var_of (by decide +kernel)
theorem V_L_law_4 : Var C_L_law 4 "_law_book_here" := var_of (by decide +kernel)
theorem V_L_law_5 : Var C_L_law 5 "_law_told_here" := var_of (by decide +kernel)
theorem S_L_law_1 : Loca C_L_law 1 "_law_due" := loc_of (by decide +kernel)
theorem S_L_law_2 : Loca C_L_law 2 "_law_handed" := loc_of (by decide +kernel)
theorem S_L_law_3 : Loca C_L_law 3 "_law_part" := loc_of (by decide +kernel)
theorem S_L_law_4 : Loca C_L_law 4 "_law_book_here" := loc_of (by decide +kernel)
theorem S_L_law_5 : Loca C_L_law 5 "_law_told_here" := loc_of (by decide +kernel)
theorem G_L_law_Book : Glo C_L_law "Book" := glo_of (by decide +kernel)
theorem G_L_law__law_alike : Glo C_L_law "_law_alike" := glo_of (by decide +kernel)
theorem G_L_law__law_book : Glo C_L_law "_law_book" := glo_of (by decide +kernel)
theorem G_L_law__law_told : Glo C_L_law "_law_told" := glo_of (by decide +kernel)
theorem b_L_law {G : Cfg} (A : All G) (O : Own) (a_script : (List Int)) (hpre : a_script.length ≤ 63 ∧ NoTups O) : SS G C_L_law (defBody (top 36)) (frame0 N_L_law [(dLo G.K dI) a_script]) O (fnV dB O) (.rt (m_L_law a_script)) := by
  unfold m_L_law
  have hnt := hpre.2
  replace hpre := hpre.1
  refine ss_asg (f := (fun x : ((List Str) × (List (Str × Int × (List Str))) × (List (Int × Str × Str × Str)) × (List Sy)) => dLst G.K [(dLo G.K dS) x.1, (dLo G.K (dT3 G.K dS dI (dVt G.K dS))) x.2.1, (dLo G.K (dT4 G.K dI dS dS dS)) x.2.2.1, (dLo G.K (dSy G.K)) x.2.2.2])) .rt S_L_law_1 (fun _ => rfl) (e_call (k_L_book A) (by decide) G_L_law__law_book ⟨a_script, (24 : Int), (by trivial), rfl, rfl⟩ (a_cons (e_var V_L_law_0 rfl) (a_cons e_int a_nil (fun _ => rfl)) (fun _ => rfl)) (fun _ => rfl)) ?_
  intro due_1 hdue_1
  have hdr := drawn_of hdue_1 hpre (by omega)
  have hgood := hdr.good
  have hn2 := hdr.n2
  have hn1 := hdr.n1
  refine ss_asgTL S_L_law_2 (swL_of ⟨by decide +kernel, by decide +kernel, rfl, by decide +kernel⟩) (etl_lc4 (own := [("_law_part", 3)]) (d1 := List.map dS due_1.1) (d2 := List.map (dT3 G.K dS dI (dVt G.K dS)) due_1.2.1) (d3 := List.map (dT4 G.K dI dS dS dS) due_1.2.2.1) (d4 := List.map (dSy G.K) due_1.2.2.2) nd_L_law (ei_list (e_var V_L_law_1 rfl)) (blkOk_by (by decide +kernel)) (fun _ => (tj_name (loc_of (i := 3) (by decide +kernel)))) (by decide) (fun _ _ => en_callT k_listL (glo_of (by decide +kernel)) A.b_list bt_list (a_cons (e_var (var_of (i := 3) (by decide +kernel)) rfl) a_nil (fun _ => rfl)) (fun _ => rfl)) (fun _ _ => rfl)) ?_
  intro p_handed_3 p_handed_4 p_handed_5 p_handed_6
  refine ss_asg (f := (dBook G)) .rt S_L_law_4 (fun _ => rfl) (e_insBor (ns := bookNs) (d1 := List.map dS due_1.1) (d2 := List.map (dT3 G.K dS dI (dVt G.K dS)) due_1.2.1) (d3 := List.map (dT4 G.K dI dS dS dS) due_1.2.2.1) (d4 := List.map (dSy G.K) due_1.2.2.2) (k_P_Book_at_own A) (by decide) G_L_law_Book (fun p => ⟨p, [], due_1.1, due_1.2.1, due_1.2.2.1, due_1.2.2.2, (by trivial), rfl, rfl, rfl⟩) (by (repeat apply nt_lst); assumption) (fun d hd => by obtain ⟨_, _, rfl⟩ := List.mem_map.mp hd; exact ty_S) (fun d hd => by obtain ⟨_, _, rfl⟩ := List.mem_map.mp hd; exact (ty_T (ty_cons ty_S (ty_cons ty_V (ty_cons (ty_Vt fun _ => ty_S) ty_nil))))) (fun d hd => by obtain ⟨_, _, rfl⟩ := List.mem_map.mp hd; exact (ty_T (ty_cons ty_V (ty_cons ty_S (ty_cons ty_S (ty_cons ty_S ty_nil)))))) (fun d hd => by obtain ⟨_, _, rfl⟩ := List.mem_map.mp hd; exact ty_Sy) (a_cons (e_ixL (i := (0 : Int)) rfl (e_var V_L_law_2 rfl) e_int (fun _ _ => rfl)) (a_cons (e_ixL (i := (1 : Int)) rfl (e_var V_L_law_2 rfl) e_int (fun _ _ => rfl)) (a_cons (e_ixL (i := (2 : Int)) rfl (e_var V_L_law_2 rfl) e_int (fun _ _ => rfl)) (a_cons (e_ixL (i := (3 : Int)) rfl (e_var V_L_law_2 rfl) e_int (fun _ _ => rfl)) a_nil (fun _ => rfl)) (fun _ => rfl)) (fun _ => rfl)) (fun _ => rfl)) (cv_cons (cv1_own (G := G) (ds := List.map dS due_1.1) (n := 3) rfl) (cv_cons (cv1_own (G := G) (ds := List.map (dT3 G.K dS dI (dVt G.K dS)) due_1.2.1) (n := 2) rfl) (cv_cons (cv1_own (G := G) (ds := List.map (dT4 G.K dI dS dS dS) due_1.2.2.1) (n := 1) rfl) (cv_cons (cv1_own (G := G) (ds := List.map (dSy G.K) due_1.2.2.2) (n := 0) rfl) cv_nil)))) (fun _ => rfl)) ?_
  intro book_here_7 hbook_here_7
  refine ss_when .rt (t_lend (i := 2) rfl (cv1_lst (cv_cons (cv1_own (G := G) (ds := List.map dS due_1.1) (n := 3) rfl) (cv_cons (cv1_own (G := G) (ds := List.map (dT3 G.K dS dI (dVt G.K dS)) due_1.2.1) (n := 2) rfl) (cv_cons (cv1_own (G := G) (ds := List.map (dT4 G.K dI dS dS dS) due_1.2.2.1) (n := 1) rfl) (cv_cons (cv1_own (G := G) (ds := List.map (dSy G.K) due_1.2.2.2) (n := 0) rfl) cv_nil))))) (t_cmp (c_neDat (f := (fun x : ((List Str) × (List (Str × Int × (List Str))) × (List (Int × Str × Str × Str)) × (List Sy)) => dLst G.K [(dLo G.K dS) x.1, (dLo G.K (dT3 G.K dS dI (dVt G.K dS))) x.2.1, (dLo G.K (dT4 G.K dI dS dS dS)) x.2.2.1, (dLo G.K (dSy G.K)) x.2.2.2])) (a := (due_1.1, due_1.2.1, due_1.2.2.1, due_1.2.2.2)) (b := due_1) (dat_h4 (Dat.up (dat_lst dat_str) (m := 3) (by decide)) (dat_lst (dat_t3 (Dat.up dat_str (m := 1) (by decide)) (Dat.up dat_int (m := 1) (by decide)) (dat_vtup dat_str))) (Dat.up (dat_lst (dat_t4 dat_int dat_str dat_str dat_str)) (m := 3) (by decide)) (Dat.up (dat_lst dat_sy) (m := 3) (by decide))) (by decide)) (e_var V_L_law_2 rfl) (e_var V_L_law_1 rfl) rfl)) (fun _ => nofun) (fun hc_8 => ?_) (fun hc_8 => ?_)
  ·
    exact ss_ret e_bool (fun _ _ _ h => (rk_drop (rk_drop (rk_drop (rk_drop h)))))
  refine ss_for4 (h := fun d => d.reverse ++ [dN]) S_L_law_3 (e_var V_L_law_2 rfl) (by trivial) (by trivial) (by trivial) (by trivial) (fun n p d O2 hd hk => ss_revB hd hk (fun _ => (e_var V_L_law_3 rfl)) (fun _ => (e_var V_L_law_3 rfl)) (fun _ => e_none) (fun _ => rfl) (fun _ => rfl) rfl rfl (fun _ => rfl) frle_back) ?_ (fun _ _ => rfl)
  refine ss_dropO ?_
  refine ss_dropO ?_
  refine ss_dropO ?_
  refine ss_dropO ?_
  refine ss_let (a := (m_L_told_at_own book_here_7)) .rt ?_
  intro told_here_9 htold_here_9
  have htl : told_here_9 = due_1 := by rw [htold_here_9, hbook_here_7]; rfl
  have ht1 : told_here_9.2.1.length + told_here_9.2.2.1.length + told_here_9.2.2.2.length ≤ 60 := by rw [htl]; exact hn2
  have ht2 : told_here_9.1.length ≤ 24 := by rw [htl]; exact hn1.2
  refine ss_asgT S_L_law_5 (fun _ => rfl) (et_call (St := (fun O' d => ∃ (p_0 : Addr) (p_1 : Addr) (p_2 : Addr) (p_3 : Addr), O' = (p_3, oLst (told_here_9.2.2.2.map (dSy G.K))) :: (p_2, oLst (told_here_9.2.2.1.map (dT4 G.K dI dS dS dS))) :: (p_1, oLst (told_here_9.2.1.map (dT3 G.K dS dI (dVt G.K dS)))) :: (p_0, oLst (told_here_9.1.map dS)) :: O ∧ d = dLst G.K [dP p_0, dP p_1, dP p_2, dP p_3])) (k_L_told_at_own A) (by decide) G_L_law__law_told ⟨book_here_7, True.intro, rfl, by rw [htold_here_9]⟩ (a_cons (e_var V_L_law_4 rfl) a_nil (fun _ => rfl)) (fun _ => rfl)) ?_
  intro O' d' hS'
  obtain ⟨p_told_here_10, p_told_here_11, p_told_here_12, p_told_here_13, rfl, rfl⟩ := hS'
  refine ss_when .rt (t_lend (i := 5) rfl (cv1_lst (cv_cons (cv1_own (G := G) (ds := List.map dS told_here_9.1) (n := 3) rfl) (cv_cons (cv1_own (G := G) (ds := List.map (dT3 G.K dS dI (dVt G.K dS)) told_here_9.2.1) (n := 2) rfl) (cv_cons (cv1_own (G := G) (ds := List.map (dT4 G.K dI dS dS dS) told_here_9.2.2.1) (n := 1) rfl) (cv_cons (cv1_own (G := G) (ds := List.map (dSy G.K) told_here_9.2.2.2) (n := 0) rfl) cv_nil))))) (t_not (t_val (e_call (k_L_alike A) (by decide) G_L_law__law_alike ⟨_, _, (fit_h4 (fit_lst (fun _ => fit_str) _) (fit_lst (fun _ => (fit_t3 fit_str fit_int (fit_tup (fun _ => fit_str) _))) _) (fit_lst (fun _ => (fit_t4 fit_int fit_str fit_str fit_str)) _) (fit_lst (fun _ => fit_sy) _)), (fit_h4 (fit_lst (fun _ => fit_str) _) (fit_lst (fun _ => (fit_t3 fit_str fit_int (fit_tup (fun _ => fit_str) _))) _) (fit_lst (fun _ => (fit_t4 fit_int fit_str fit_str fit_str)) _) (fit_lst (fun _ => fit_sy) _)), rfl, rfl⟩ (a_cons (e_eq (e_var V_L_law_5 rfl) ((any_h4 (any_lst (fun x => (dA_str x).symm)) (any_lst (any_t3 (fun x => (dA_str x).symm) (fun x => (dA_int x).symm) (any_tup (fun x => (dA_str x).symm)))) (any_lst (any_t4 (fun x => (dA_int x).symm) (fun x => (dA_str x).symm) (fun x => (dA_str x).symm) (fun x => (dA_str x).symm))) (any_lst (fun x => sy_any x))) (told_here_9.1, told_here_9.2.1, told_here_9.2.2.1, told_here_9.2.2.2))) (a_cons (e_eq (e_var V_L_law_1 rfl) ((any_h4 (any_lst (fun x => (dA_str x).symm)) (any_lst (any_t3 (fun x => (dA_str x).symm) (fun x => (dA_int x).symm) (any_tup (fun x => (dA_str x).symm)))) (any_lst (any_t4 (fun x => (dA_int x).symm) (fun x => (dA_str x).symm) (fun x => (dA_str x).symm) (fun x => (dA_str x).symm))) (any_lst (fun x => sy_any x))) due_1)) a_nil (fun _ => rfl)) (fun _ => rfl)) (fun _ => rfl)) (fun _ _ => rfl)))) (fun _ => nofun) (fun hc_14 => ?_) (fun hc_14 => ?_)
  ·
    exact ss_ret e_bool (fun _ _ _ h => (rk_drop (rk_drop (rk_drop (rk_drop h)))))
  refine ss_for4 (h := fun _ => []) S_L_law_3 (e_var V_L_law_5 rfl) (by trivial) (by trivial) (by trivial) (by trivial) (fun n p d O2 hd hk => ss_clrB hk (e_var V_L_law_3 rfl) (fun _ => rfl) rfl frle_back) ?_ (fun _ _ => rfl)
  refine ss_dropO ?_
  refine ss_dropO ?_
  refine ss_dropO ?_
  refine ss_dropO ?_
  exact ss_ret (e_call (k_L_alike A) (by decide) G_L_law__law_alike ⟨_, _, (fit_h4 (fit_lst (fun _ => fit_str) _) (fit_lst (fun _ => (fit_t3 fit_str fit_int (fit_tup (fun _ => fit_str) _))) _) (fit_lst (fun _ => (fit_t4 fit_int fit_str fit_str fit_str)) _) (fit_lst (fun _ => fit_sy) _)), (fit_h4 (fit_lst (fun _ => fit_str) _) (fit_lst (fun _ => (fit_t3 fit_str fit_int (fit_tup (fun _ => fit_str) _))) _) (fit_lst (fun _ => (fit_t4 fit_int fit_str fit_str fit_str)) _) (fit_lst (fun _ => fit_sy) _)), rfl, rfl⟩ (a_cons (e_eq (e_call (k_L_told A) (by decide) G_L_law__law_told ⟨book_here_7, True.intro, rfl, rfl⟩ (a_cons (e_var V_L_law_4 rfl) a_nil (fun _ => rfl)) (fun _ => rfl)) ((any_h4 (any_lst (fun x => (dA_str x).symm)) (any_lst (any_t3 (fun x => (dA_str x).symm) (fun x => (dA_int x).symm) (any_tup (fun x => (dA_str x).symm)))) (any_lst (any_t4 (fun x => (dA_int x).symm) (fun x => (dA_str x).symm) (fun x => (dA_str x).symm) (fun x => (dA_str x).symm))) (any_lst (fun x => sy_any x))) (m_L_told book_here_7))) (a_cons (e_eq (e_var V_L_law_1 rfl) ((any_h4 (any_lst (fun x => (dA_str x).symm)) (any_lst (any_t3 (fun x => (dA_str x).symm) (fun x => (dA_int x).symm) (any_tup (fun x => (dA_str x).symm)))) (any_lst (any_t4 (fun x => (dA_int x).symm) (fun x => (dA_str x).symm) (fun x => (dA_str x).symm) (fun x => (dA_str x).symm))) (any_lst (fun x => sy_any x))) due_1)) a_nil (fun _ => rfl)) (fun _ => rfl)) (fun _ => rfl)) (fun _ _ _ h => h)
end Kn
namespace Kn
open PySem PySem.Spec L2
theorem eqA_self {x : Va} (h : (match x with
  | .non => true
  | .int _ => true
  | .str _ => true
  | _ => false) = true) : eqA x x = true := by
  cases x with
  | non => simp only [eqA, toP, PyData.eqv]
  | int i => simp only [eqA, toP, PyData.eqv, beq_self_eq_true]
  | str s => simp only [eqA, toP, PyData.eqv, beq_self_eq_true]
  | _ => cases h
theorem mem_zip_self {α : Type} : ∀ {xs : List α} {p : α × α}, p ∈ xs.zip xs → p.1 = p.2 ∧ p.1 ∈ xs
  | [], _, h => by simp at h
  | x :: xs, p, h => by
    rw [List.zip_cons_cons] at h
    rcases List.mem_cons.mp h with rfl | h
    · exact ⟨rfl, List.mem_cons_self⟩
    · have := mem_zip_self h
      exact ⟨this.1, List.mem_cons_of_mem _ this.2⟩
theorem alike_step (rec : Va → Va → Bool) {x : Va} (n : Nat) (h : Fit n x) (hr : ∀ y ∈ x.items, rec y y = true) : m_L_alike rec x x = true := by
  have held : ∀ xs : List Va, (∀ y ∈ xs, rec y y = true) → loopL (R := Bool) (fun (_ : Unit) (p : Va × Va) => if (!(rec p.1 p.2)) = true then Ret.rt false else Ret.nx ()) (xs.zip xs) () = Ret.nx () := fun xs hx => loop_nx fun p hp => by
    obtain ⟨h1, h2⟩ := mem_zip_self hp
    rw [← h1, hx _ h2]
    rfl
  cases x with
  | non => unfold m_L_alike; rw [eqA_self rfl]; rfl
  | int i => unfold m_L_alike; rw [eqA_self rfl]; rfl
  | str s => unfold m_L_alike; rw [eqA_self rfl]; rfl
  | lst xs =>
    unfold m_L_alike
    have e : (Va.lst xs).items = xs := rfl
    rw [e] at hr ⊢
    rw [held xs hr, show decide ((xs.length : Int) = (xs.length : Int)) = true from decide_eq_true rfl]
    rfl
  | tup xs =>
    unfold m_L_alike
    have e : (Va.tup xs).items = xs := rfl
    rw [e] at hr ⊢
    rw [held xs hr, show decide ((xs.length : Int) = (xs.length : Int)) = true from decide_eq_true rfl]
    rfl
  | _ => cases n <;> exact (show False from h).elim
theorem alike_refl : ∀ (n : Nat) (x : Va), Fit n x → R_L_alike n x x = true
  | 0, x, h => alike_step _ 0 h fun y hy => by rw [fit0_items h] at hy; cases hy
  | n + 1, x, h => alike_step _ (n + 1) h fun y hy => alike_refl n y (fit_items h hy)
abbrev PartsT := List Str × List Sight × List Talk × List Sy
abbrev vP2 : PartsT → Va := fun x => Va.lst [(fun xs : (List Str) => Va.lst (xs.map Va.str)) x.1, (fun xs : (List (Str × Int × (List Str))) => Va.lst (xs.map (fun x : (Str × Int × (List Str)) => Va.tup [Va.str x.1, Va.int x.2.1, (fun xs : (List Str) => Va.tup (xs.map Va.str)) x.2.2]))) x.2.1, (fun xs : (List (Int × Str × Str × Str)) => Va.lst (xs.map (fun x : (Int × Str × Str × Str) => Va.tup [Va.int x.1, Va.str x.2.1, Va.str x.2.2.1, Va.str x.2.2.2]))) x.2.2.1, (fun xs : (List Sy) => Va.lst (xs.map syA)) x.2.2.2]
theorem fit_vP2 (v : PartsT) : Fit 4 (vP2 v) := fit_h4 (fit_lst (fun _ => fit_str) _) (fit_lst (fun _ => fit_t3 fit_str fit_int (fit_tup (fun _ => fit_str) _)) _) (fit_lst (fun _ => fit_t4 fit_int fit_str fit_str fit_str) _) (fit_lst (fun x => fit_sy) _)
theorem law_true (script : List Int) (hl : script.length ≤ 63) : m_L_law script = true := by
  have key : ∀ due : PartsT, (if (!decide (due = due)) = true then false else (if (!(R_L_alike 4 (vP2 due) (vP2 due))) = true then false else (R_L_alike 4 (vP2 due) (vP2 due)))) = true := fun due => by
    rw [alike_refl 4 _ (fit_vP2 due), decide_eq_true rfl]
    rfl
  exact key (m_L_book script 24)
end Kn
namespace Kn
open PySem PySem.Spec L2
theorem hd_all {P : Program} {w : World} {K : PySem.W.Frag} {mg : Str → Option Value} {base h : Heap} (X : K.In h) (Gm : h.Ns mainGlobals mg) (c : SaysM hdFa hdFn hdEx K) : All ⟨P, w, K, mg, base⟩ where
  d_L_names := def_of X Gm c.d (i := 0) (j := 0) rfl rfl
  d_L_hour := def_of X Gm c.d (i := 1) (j := 1) rfl rfl
  d_L_tale := def_of X Gm c.d (i := 2) (j := 2) rfl rfl
  d_L_talk := def_of X Gm c.d (i := 3) (j := 3) rfl rfl
  d_L_saying := def_of X Gm c.d (i := 4) (j := 4) rfl rfl
  d_L_book := def_of X Gm c.d (i := 5) (j := 5) rfl rfl
  d_P_is_name := def_of X Gm c.d (i := 6) (j := 6) rfl rfl
  d_P_are_persons := def_of X Gm c.d (i := 7) (j := 7) rfl rfl
  d_P_is_tuple_of := def_of X Gm c.d (i := 8) (j := 8) rfl rfl
  d_P_is_whole := def_of X Gm c.d (i := 9) (j := 9) rfl rfl
  d_P_is_hour := def_of X Gm c.d (i := 10) (j := 10) rfl rfl
  d_P_is_tale := def_of X Gm c.d (i := 11) (j := 11) rfl rfl
  d_P_is_sight := def_of X Gm c.d (i := 12) (j := 12) rfl rfl
  d_P_are_all := def_of X Gm c.d (i := 13) (j := 13) rfl rfl
  d_P_are_two := def_of X Gm c.d (i := 14) (j := 14) rfl rfl
  d_P_is_talk := def_of X Gm c.d (i := 15) (j := 15) rfl rfl
  d_P_is_saying := def_of X Gm c.d (i := 16) (j := 16) rfl rfl
  d_L_told := def_of X Gm c.d (i := 17) (j := 17) rfl rfl
  d_L_alike := def_of X Gm c.d (i := 18) (j := 18) rfl rfl
  d_L_law := def_of X Gm c.d (i := 19) (j := 19) rfl rfl
  d_P_Book_persons := defM_of X Gm c.d (i := 20) (j := 20) (k := 21) (l := 22) rfl rfl rfl rfl
  d_P_Book_sights := defM_of X Gm c.d (i := 21) (j := 20) (k := 21) (l := 23) rfl rfl rfl rfl
  d_P_Book_talks := defM_of X Gm c.d (i := 22) (j := 20) (k := 21) (l := 24) rfl rfl rfl rfl
  d_P_Book_sayings := defM_of X Gm c.d (i := 23) (j := 20) (k := 21) (l := 25) rfl rfl rfl rfl
  i_Book := defI_of X Gm c.d (i := 24) (j := 20) (k := 21) (l := 26) rfl rfl rfl rfl
  a_Book_claims := noat_of X Gm c.d (j := 20) (k := 27) rfl rfl
  a_Book_crew := noat_of X Gm c.d (j := 20) (k := 28) rfl rfl
  a_Book_meetings := noat_of X Gm c.d (j := 20) (k := 29) rfl rfl
  a_Book_views := noat_of X Gm c.d (j := 20) (k := 30) rfl rfl
  b_bool := He.free_ok X Gm (c.d.fact 31 (f := .free "bool") rfl)
  b_enumerate := He.free_ok X Gm (c.d.fact 32 (f := .free "enumerate") rfl)
  b_int := He.free_ok X Gm (c.d.fact 33 (f := .free "int") rfl)
  b_isinstance := He.free_ok X Gm (c.d.fact 34 (f := .free "isinstance") rfl)
  b_len := He.free_ok X Gm (c.d.fact 35 (f := .free "len") rfl)
  b_list := He.free_ok X Gm (c.d.fact 36 (f := .free "list") rfl)
  b_max := He.free_ok X Gm (c.d.fact 37 (f := .free "max") rfl)
  b_min := He.free_ok X Gm (c.d.fact 38 (f := .free "min") rfl)
  b_range := He.free_ok X Gm (c.d.fact 39 (f := .free "range") rfl)
  b_set := He.free_ok X Gm (c.d.fact 40 (f := .free "set") rfl)
  b_str := He.free_ok X Gm (c.d.fact 41 (f := .free "str") rfl)
  b_tuple := He.free_ok X Gm (c.d.fact 42 (f := .free "tuple") rfl)
  b_zip := He.free_ok X Gm (c.d.fact 43 (f := .free "zip") rfl)
  c_KEPT_WORDS := ⟨_, He.glo_ok X Gm (c.d.fact 44 (f := .glo "KEPT_WORDS") rfl), tab_str (l := K_KEPT_WORDS) c.m⟩
  c_LAST_HOUR := He.int_ok X Gm (c.d.fact 45 (f := .int "LAST_HOUR" 1000000000000000000) rfl)
  c_LETTERS := He.str_ok X Gm (c.d.fact 46 (f := .str "LETTERS" K_LETTERS) rfl)
  c_LONGEST := He.int_ok X Gm (c.d.fact 47 (f := .int "LONGEST" 12) rfl)
  c_MOST_PERSONS := He.int_ok X Gm (c.d.fact 48 (f := .int "MOST_PERSONS" 24) rfl)
  c_MOST_SAYINGS := He.int_ok X Gm (c.d.fact 49 (f := .int "MOST_SAYINGS" 60) rfl)
  c_MOST_SIGHTS := He.int_ok X Gm (c.d.fact 50 (f := .int "MOST_SIGHTS" 24) rfl)
  c_MOST_TALKS := He.int_ok X Gm (c.d.fact 51 (f := .int "MOST_TALKS" 120) rfl)
  c_MOST_WORDS := He.int_ok X Gm (c.d.fact 52 (f := .int "MOST_WORDS" 6) rfl)
theorem hd_facts {P : Program} {w : World} {K : PySem.W.Frag} {h : Heap} {mg : Str → Option Value} {f : Addr} (X : K.In h) (Gm : h.Ns mainGlobals mg) (hfa : mg ("law" : Str) = some (.ref f)) (c : SaysM hdFa hdFn hdEx K) :
    ∃ fd : FuncData, (∀ (s : Shared) (v : Value), BindsTo s fd ⟨[v], []⟩ [("_law_script", v)]) ∧ ∀ base : Heap, K.In base → base.Ns mainGlobals mg → FnOk P w K mg base (CX P w) 8 f fd ["_law_script"] (spD (sp_L_law ⟨P, w, K, mg, h⟩)) := by
  obtain ⟨fd, F⟩ := c.d.def_ 19 (d := ⟨("law", none), "law", "law", defArgs (top 36), defBody (top 36), defScope (top 36), [], []⟩) rfl
  have e := hfa.symm.trans (He.glo_ok X Gm (c.d.fact 19 (f := .glo "law") rfl))
  cases e
  have b := FunD.bindsA (ps := ["_law_script"]) F fun _ _ _ _ _ _ us hl => match us, hl with | [_], _ => rfl
  refine ⟨fd, fun s v => b s [v] rfl, fun base _ _ => ?_⟩
  refine fn_ok (G := ⟨P, w, K, mg, base⟩) (S := sp_L_law ⟨P, w, K, mg, h⟩) (N := N_L_law) (ps := ["_law_script"]) F (scope_of rfl rfl rfl (by decide +kernel)) (fun ds O rk q => ?_) (fun ds O rk q => ?_)
  · obtain ⟨ns, _, rfl, _⟩ := q; rfl
  · obtain ⟨ns, hp, rfl, rfl⟩ := q
    exact ⟨_, _, _, _, b_L_law (hd_all X Gm c) O ns hp, rfl⟩
end Kn
open PySem PySem.W PySem.Calls PyProof.Rows
theorem PySem.Challenge.cw_knewby_k02_books_told_holds : PySem.Challenge.rw_knewby_k02_books_told.Holds := by
  w_on; o_law
  refine HandSHeadRun.head_any (r := OpenLaw.row PySem.Challenge.rw_knewby_k02_books_told) (q := view (OpenLaw.row PySem.Challenge.rw_knewby_k02_books_told).prog [36]) (H := Kn.hdHk) (ob := Kn.hdOb) (M := 8000) (loose := Kn.hdLoose) (d := HandSHeadRun.topDef (OpenLaw.row PySem.Challenge.rw_knewby_k02_books_told).prog 36) (kwd := []) Kn.hdOb_eq
    (by kernel_rfl) (fun s => by kernel_rfl) Kn.hd_run (by kernel_rfl) (by kernel_rfl) (by kernel_rfl) (by rfl) (by first | assumption | decide +kernel) (by decide +kernel) ⟨rfl, rfl, rfl, rfl, rfl, by decide +kernel⟩ ?hw ?hc
  case hw => w_witness2
  case hc =>
    refine Kn.walk_kn (l := PySem.Challenge.rw_knewby_k02_books_told) (n := 63) (k := 8) (x := "_law_script") rfl (by decide) (by kernel_rfl) ⟨rfl, by decide, by decide⟩ ?F
    intro w mg fa h Y Gm hmg0
    obtain ⟨K, KX, c⟩ := Y
    have hmg : mg ("law" : PySem.Str) = some (.ref fa) := by
      have e : (HandSHeadRun.topDef (OpenLaw.row PySem.Challenge.rw_knewby_k02_books_told).prog 36).name = ("law" : PySem.Str) := by kernel_rfl
      rw [← e]
      exact hmg0
    obtain ⟨fd, hb, hF⟩ := Kn.hd_facts (P := (PySem.Challenge.rw_knewby_k02_books_told).prog) (w := w) KX Gm hmg c
    exact ⟨K, fd, _, KX, hb, fun ns hl => ⟨ns, ⟨hl, Kn.nt_nil⟩, rfl, by rw [Kn.law_true ns hl]⟩, hF⟩
