import PyProof.Rows.All
import Wide.All
import OpenK.AllK
import Wide.FinOn
import HandS.ForMost
import HandS.TupAny
import HandS.Walk
import HandS.Deep
import HandS.Style
import HandS.Text
import HandS.TupMul
import PyProof.StrOps2
import PyProof.ReprReads
import PyProof.ReprRoads
import HandS.Zip
import HandS.Iter
import HandS.ReplaceLit
import HandS.ReplaceList
import HandS.IsInst
import HandS.Wide
import KE.SortData
import KE.DataMinMax
import KE.GoesMore
import HandS.Conv
import PySem.Challenge.RW_heldalways_k17_whole_settings_mixed_of_o
set_option Elab.async false
set_option linter.all false
set_option maxRecDepth 100000
set_option maxHeartbeats 4000000
/-! A by-value reading of the hand layer: values are trees, only lists that change stand in a store. -/
namespace Fx
open PySem PySem.Spec PyProof.Rows L2

inductive Val where
  | non
  | bl (b : Bool)
  | int (i : Int)
  | str (x : Str)
  | tup (l : List Val)
  | fro (l : List Val)
  | scr (l : List Val)
  | ref (i : Nat)
  | obj (C : Addr) (ks : List Str) (vs : List Val)
  | raw (v : V)

inductive Cell where
  | lst (l : List Val)
  | ins (C : Addr) (ks : List Str) (vs : List Val)

abbrev Store := List Cell
abbrev Frg := PySem.W.Frag

def Scr (K : Frg) (H : Hp) (a : Addr) (xs : List V) : Prop :=
  (∃ o, H a = some (.frz o (.lst xs))) ∨
    ∃ (o : Obj) (its : Array Value) (n : Nat), K.lookup a = some o ∧ o.cls = .type "list" ∧ o.dict = none ∧ o.data = .seq its n ∧ its.size ≤ sizeLine ∧ Vals xs its.toList
theorem Scr.sq {K : Frg} {H : Hp} {a : Addr} {xs : List V} (h : Scr K H a xs) : SqL K H a xs := by
  rcases h with ⟨o, h⟩ | h
  · exact .inl (.inr ⟨o, h⟩)
  · exact .inr h

mutual
def RV (K : Frg) (F : List Addr) (φ : List Addr) (H : Hp) : Val → V → Prop
  | .non, v => v = .non
  | .bl b, v => v = .bl b
  | .int i, v => v = .int i
  | .str x, v => v = .str x
  | .tup l, v => ∃ a xs, v = .ref a ∧ SqT K H a xs ∧ RVs K F φ H l xs
  | .fro l, v => ∃ a xs, v = .ref a ∧ a ∉ φ ∧ a ∉ F ∧ H a = some (.lst xs) ∧ RVs K F φ H l xs
  | .scr l, v => ∃ a xs, v = .ref a ∧ Scr K H a xs ∧ RVs K F φ H l xs
  | .ref i, v => ∃ a, v = .ref a ∧ φ[i]? = some a
  | .obj C ks vs, v => ∃ a dx gs, v = .ref a ∧ a ∉ φ ∧ a ∉ F ∧ H a = some (.ins C dx gs) ∧ gs.map (·.1) = ks ∧ RVs K F φ H vs (gs.map (·.2))
  | .raw w, v => v = w
def RVs (K : Frg) (F : List Addr) (φ : List Addr) (H : Hp) : List Val → List V → Prop
  | [], xs => xs = []
  | d :: ds, xs => ∃ v vs, xs = v :: vs ∧ RV K F φ H d v ∧ RVs K F φ H ds vs
end

structure Ext (φ : List Addr) (H : Hp) (φ' : List Addr) (H' : Hp) : Prop where
  pre : ∃ ψ, φ' = φ ++ ψ ∧ ∀ a ∈ ψ, H a = none
  old : ∀ a o, H a = some o → a ∉ φ → H' a = some o
  there : ∀ a o, H a = some o → ∃ o', H' a = some o'
  tup : ∀ a xs, H a = some (.tup xs) → H' a = some (.tup xs)
  frz : ∀ a o u, H a = some (.frz o u) → H' a = some (.frz o u)

section
variable {K : Frg} {F φ φ' φ'' : List Addr} {H H' H'' : Hp}
theorem Ext.refl : Ext φ H φ H := ⟨⟨[], by simp, by simp⟩, fun _ _ h _ => h, fun _ o h => ⟨o, h⟩, fun _ _ h => h, fun _ _ _ h => h⟩
theorem Ext.nin (e : Ext φ H φ' H') {a : Addr} {o : HO} (h : H a = some o) (n : a ∉ φ) : a ∉ φ' := by
  obtain ⟨ψ, e1, e2⟩ := e.pre
  rw [e1]
  intro hm
  rcases List.mem_append.mp hm with hm | hm
  · exact n hm
  · rw [e2 a hm] at h
    cases h
theorem Ext.trans (e : Ext φ H φ' H') (f : Ext φ' H' φ'' H'') : Ext φ H φ'' H'' := by
  obtain ⟨ψ, e1, e2⟩ := e.pre
  obtain ⟨χ, f1, f2⟩ := f.pre
  refine ⟨⟨ψ ++ χ, by rw [f1, e1, List.append_assoc], fun a ha => ?_⟩, fun a o h n => f.old a o (e.old a o h n) (e.nin h n), fun a o h => ?_, fun a xs h => f.tup a xs (e.tup a xs h), fun a o u h => f.frz a o u (e.frz a o u h)⟩
  · rcases List.mem_append.mp ha with ha | ha
    · exact e2 a ha
    · cases q : H a with
      | none => rfl
      | some o =>
        obtain ⟨o', h'⟩ := e.there a o q
        rw [f2 a ha] at h'
        cases h'
  · obtain ⟨o', h'⟩ := e.there a o h
    exact f.there a o' h'
theorem Ext.at (e : Ext φ H φ' H') {i : Nat} {a : Addr} (h : φ[i]? = some a) : φ'[i]? = some a := by
  obtain ⟨ψ, e1, _⟩ := e.pre
  rw [e1, List.getElem?_append_left (List.getElem?_eq_some_iff.mp h).1]
  exact h
theorem Ext.sqT (e : Ext φ H φ' H') {a : Addr} {xs : List V} (h : SqT K H a xs) : SqT K H' a xs := by
  rcases h with (h | ⟨o, h⟩) | h
  · exact .inl (.inl (e.tup _ _ h))
  · exact .inl (.inr ⟨o, e.frz _ _ _ h⟩)
  · exact .inr h
theorem Ext.scr (e : Ext φ H φ' H') {a : Addr} {xs : List V} (h : Scr K H a xs) : Scr K H' a xs := by
  rcases h with ⟨o, h⟩ | h
  · exact .inl ⟨o, e.frz _ _ _ h⟩
  · exact .inr h
mutual
theorem RV.mono (e : Ext φ H φ' H') : ∀ (d : Val) (v : V), RV K F φ H d v → RV K F φ' H' d v
  | .non, v, h => by unfold RV at h ⊢; exact h
  | .bl b, v, h => by unfold RV at h ⊢; exact h
  | .int i, v, h => by unfold RV at h ⊢; exact h
  | .str x, v, h => by unfold RV at h ⊢; exact h
  | .raw w, v, h => by unfold RV at h ⊢; exact h
  | .tup l, v, h => by
    unfold RV at h ⊢
    obtain ⟨a, xs, h1, h2, h3⟩ := h
    exact ⟨a, xs, h1, e.sqT h2, RVs.mono e l xs h3⟩
  | .fro l, v, h => by
    unfold RV at h ⊢
    obtain ⟨a, xs, h1, h2, h4, h5, h3⟩ := h
    exact ⟨a, xs, h1, e.nin h5 h2, h4, e.old a _ h5 h2, RVs.mono e l xs h3⟩
  | .scr l, v, h => by
    unfold RV at h ⊢
    obtain ⟨a, xs, h1, h2, h3⟩ := h
    exact ⟨a, xs, h1, e.scr h2, RVs.mono e l xs h3⟩
  | .ref i, v, h => by
    unfold RV at h ⊢
    obtain ⟨a, h1, h2⟩ := h
    exact ⟨a, h1, e.at h2⟩
  | .obj C ks vs, v, h => by
    unfold RV at h ⊢
    obtain ⟨a, dx, gs, h1, h2, h4, h5, h6, h3⟩ := h
    exact ⟨a, dx, gs, h1, e.nin h5 h2, h4, e.old a _ h5 h2, h6, RVs.mono e vs _ h3⟩
theorem RVs.mono (e : Ext φ H φ' H') : ∀ (ds : List Val) (vs : List V), RVs K F φ H ds vs → RVs K F φ' H' ds vs
  | [], vs, h => by unfold RVs at h ⊢; exact h
  | d :: ds, vs, h => by
    unfold RVs at h ⊢
    obtain ⟨v, ws, h1, h2, h3⟩ := h
    exact ⟨v, ws, h1, RV.mono e d v h2, RVs.mono e ds ws h3⟩
end
theorem RVs.nil : RVs K F φ H [] [] := by unfold RVs; rfl
theorem RVs.cons {d : Val} {v : V} {ds : List Val} {vs : List V} (h : RV K F φ H d v) (t : RVs K F φ H ds vs) : RVs K F φ H (d :: ds) (v :: vs) := by
  unfold RVs
  exact ⟨v, vs, rfl, h, t⟩
theorem RVs.inv {d : Val} {ds : List Val} {xs : List V} (h : RVs K F φ H (d :: ds) xs) : ∃ v vs, xs = v :: vs ∧ RV K F φ H d v ∧ RVs K F φ H ds vs := by
  unfold RVs at h
  exact h
theorem RVs.inv0 {xs : List V} (h : RVs K F φ H [] xs) : xs = [] := by
  unfold RVs at h
  exact h
theorem RVs.length : ∀ {ds : List Val} {vs : List V}, RVs K F φ H ds vs → vs.length = ds.length
  | [], vs, h => by rw [h.inv0]; rfl
  | d :: ds, vs, h => by
    obtain ⟨v, ws, h1, h2, h3⟩ := h.inv
    rw [h1, List.length_cons, List.length_cons, RVs.length h3]
theorem RVs.get : ∀ {ds : List Val} {vs : List V} {i : Nat} {d : Val}, RVs K F φ H ds vs → ds[i]? = some d → ∃ v, vs[i]? = some v ∧ RV K F φ H d v
  | [], vs, i, d, h, q => by simp at q
  | e :: ds, vs, 0, d, h, q => by
    obtain ⟨v, ws, h1, h2, h3⟩ := h.inv
    simp at q
    subst q
    exact ⟨v, by rw [h1]; rfl, h2⟩
  | e :: ds, vs, i + 1, d, h, q => by
    obtain ⟨v, ws, h1, h2, h3⟩ := h.inv
    simp at q
    obtain ⟨u, q1, q2⟩ := RVs.get h3 q
    exact ⟨u, by rw [h1]; simpa using q1, q2⟩
theorem RVs.get' {ds : List Val} {vs : List V} {i : Nat} {v : V} (h : RVs K F φ H ds vs) (q : vs[i]? = some v) : ∃ d, ds[i]? = some d ∧ RV K F φ H d v := by
  have hl := h.length
  have hi := (List.getElem?_eq_some_iff.mp q).1
  have q1 : ds[i]? = some ds[i] := List.getElem?_eq_getElem (by omega)
  obtain ⟨u, q2, q3⟩ := h.get q1
  rw [q] at q2
  cases q2
  exact ⟨_, q1, q3⟩
theorem RVs.append : ∀ {ds es : List Val} {vs ws : List V}, RVs K F φ H ds vs → RVs K F φ H es ws → RVs K F φ H (ds ++ es) (vs ++ ws)
  | [], es, vs, ws, h, g => by
    rw [h.inv0]
    exact g
  | d :: ds, es, vs, ws, h, g => by
    obtain ⟨v, us, h1, h2, h3⟩ := h.inv
    rw [h1]
    exact .cons h2 (RVs.append h3 g)
theorem RVs.take : ∀ {ds : List Val} {vs : List V} (n : Nat), RVs K F φ H ds vs → RVs K F φ H (ds.take n) (vs.take n)
  | ds, vs, 0, h => RVs.nil
  | [], vs, n + 1, h => by
    rw [h.inv0]
    exact RVs.nil
  | d :: ds, vs, n + 1, h => by
    obtain ⟨v, us, h1, h2, h3⟩ := h.inv
    rw [h1]
    exact .cons h2 (RVs.take n h3)
theorem RVs.drop : ∀ {ds : List Val} {vs : List V} (n : Nat), RVs K F φ H ds vs → RVs K F φ H (ds.drop n) (vs.drop n)
  | ds, vs, 0, h => h
  | [], vs, n + 1, h => by
    rw [h.inv0]
    exact RVs.nil
  | d :: ds, vs, n + 1, h => by
    obtain ⟨v, us, h1, h2, h3⟩ := h.inv
    rw [h1]
    exact RVs.drop n h3
theorem RVs.set {d : Val} {v : V} (r : RV K F φ H d v) : ∀ {ds : List Val} {vs : List V} (n : Nat), RVs K F φ H ds vs → RVs K F φ H (ds.set n d) (vs.set n v)
  | [], vs, n, h => by
    rw [h.inv0]
    exact RVs.nil
  | e :: ds, vs, 0, h => by
    obtain ⟨u, us, h1, h2, h3⟩ := h.inv
    rw [h1]
    exact .cons r h3
  | e :: ds, vs, n + 1, h => by
    obtain ⟨u, us, h1, h2, h3⟩ := h.inv
    rw [h1]
    exact .cons h2 (RVs.set r n h3)
theorem RVs.reverse : ∀ {ds : List Val} {vs : List V}, RVs K F φ H ds vs → RVs K F φ H ds.reverse vs.reverse
  | [], vs, h => by
    rw [h.inv0]
    exact RVs.nil
  | d :: ds, vs, h => by
    obtain ⟨v, us, h1, h2, h3⟩ := h.inv
    rw [h1, List.reverse_cons, List.reverse_cons]
    exact (RVs.reverse h3).append (.cons h2 .nil)

/-! ### cells -/
def CellOk (K : Frg) (F φ : List Addr) (H : Hp) (a : Addr) : Cell → Prop
  | .lst l => ∃ xs, H a = some (.lst xs) ∧ RVs K F φ H l xs
  | .ins C ks vs => ∃ dx gs, H a = some (.ins C dx gs) ∧ gs.map (·.1) = ks ∧ RVs K F φ H vs (gs.map (·.2))
structure Rp (K : Frg) (F φ : List Addr) (S : Store) (H : Hp) : Prop where
  len : φ.length = S.length
  nd : φ.Nodup
  cells : ∀ (i : Nat) c, S[i]? = some c → ∃ a, φ[i]? = some a ∧ CellOk K F φ H a c
  forb : ∀ a ∈ F, a ∉ φ ∧ ∃ o, H a = some o
theorem CellOk.there {a : Addr} {c : Cell} (h : CellOk K F φ H a c) : ∃ o, H a = some o := by
  cases c with
  | lst l => obtain ⟨xs, h, _⟩ := h; exact ⟨_, h⟩
  | ins C ks vs => obtain ⟨dx, gs, h, _⟩ := h; exact ⟨_, h⟩
theorem Rp.there {S : Store} (R : Rp K F φ S H) {a : Addr} (h : a ∈ φ) : ∃ o, H a = some o := by
  obtain ⟨i, hi, e⟩ := List.getElem_of_mem h
  have hs : i < S.length := by rw [← R.len]; exact hi
  obtain ⟨b, e1, c⟩ := R.cells i S[i] (List.getElem?_eq_getElem hs)
  rw [List.getElem?_eq_getElem hi, e] at e1
  cases e1
  exact c.there
theorem Rp.fresh {S : Store} (R : Rp K F φ S H) {p : Addr} (h : H p = none) : p ∉ φ := fun hm => by
  obtain ⟨o, q⟩ := R.there hm
  rw [h] at q
  cases q
theorem Rp.freshF {S : Store} (R : Rp K F φ S H) {p : Addr} (h : H p = none) : p ∉ F := fun hm => by
  obtain ⟨_, o, q⟩ := R.forb p hm
  rw [h] at q
  cases q
theorem Rp.inj {S : Store} (R : Rp K F φ S H) {i j : Nat} {a : Addr} (h1 : φ[i]? = some a) (h2 : φ[j]? = some a) : i = j := by
  obtain ⟨q1, e1⟩ := List.getElem?_eq_some_iff.mp h1
  obtain ⟨q2, e2⟩ := List.getElem?_eq_some_iff.mp h2
  exact (List.getElem_inj R.nd).mp (e1.trans e2.symm)
theorem CellOk.upd {a b : Addr} {c : Cell} {o : HO} (h : CellOk K F φ H a c) (e : Ext φ H φ' (upd H b o)) (n : a ≠ b) : CellOk K F φ' (upd H b o) a c := by
  cases c with
  | lst l =>
    obtain ⟨xs, h1, h2⟩ := h
    exact ⟨xs, by rw [upd_ne n]; exact h1, RVs.mono e _ _ h2⟩
  | ins C ks vs =>
    obtain ⟨dx, gs, h1, h2, h3⟩ := h
    exact ⟨dx, gs, by rw [upd_ne n]; exact h1, h2, RVs.mono e _ _ h3⟩
theorem Ext.new {p : Addr} {o : HO} (h : H p = none) : Ext φ H φ (upd H p o) :=
  ⟨⟨[], by simp, by simp⟩, fun a u q _ => by rw [upd_ne (ne_of_none q h)]; exact q, fun a u q => ⟨u, by rw [upd_ne (ne_of_none q h)]; exact q⟩, fun a xs q => by rw [upd_ne (ne_of_none q h)]; exact q, fun a u w q => by rw [upd_ne (ne_of_none q h)]; exact q⟩
theorem Ext.cell {p : Addr} {o : HO} (h : H p = none) : Ext φ H (φ ++ [p]) (upd H p o) :=
  ⟨⟨[p], rfl, fun a ha => by rw [List.mem_singleton.mp ha]; exact h⟩, fun a u q _ => by rw [upd_ne (ne_of_none q h)]; exact q, fun a u q => ⟨u, by rw [upd_ne (ne_of_none q h)]; exact q⟩, fun a xs q => by rw [upd_ne (ne_of_none q h)]; exact q, fun a u w q => by rw [upd_ne (ne_of_none q h)]; exact q⟩
theorem Ext.setL {a : Addr} {o : HO} {xs : List V} (ha : a ∈ φ) (h : H a = some (.lst xs)) : Ext φ H φ (upd H a o) := by
  refine ⟨⟨[], by simp, by simp⟩, fun b u q n => ?_, fun b u q => ?_, fun b ys q => ?_, fun b u w q => ?_⟩
  · rw [upd_ne (fun z => by subst z; exact n ha)]; exact q
  · by_cases z : b = a
    · subst z; exact ⟨o, upd_same⟩
    · exact ⟨u, by rw [upd_ne z]; exact q⟩
  · rw [upd_ne (fun z => by subst z; rw [h] at q; cases q)]; exact q
  · rw [upd_ne (fun z => by subst z; rw [h] at q; cases q)]; exact q
theorem Rp.new {S : Store} (R : Rp K F φ S H) {p : Addr} {o : HO} (h : H p = none) : Rp K F φ S (L2.upd H p o) := by
  refine ⟨R.len, R.nd, fun i c q => ?_, fun a ha => ?_⟩
  · obtain ⟨a, e1, e2⟩ := R.cells i c q
    obtain ⟨u, e3⟩ := e2.there
    exact ⟨a, e1, e2.upd (Ext.new h) (ne_of_none e3 h)⟩
  · obtain ⟨n, u, q⟩ := R.forb a ha
    exact ⟨n, u, by rw [upd_ne (ne_of_none q h)]; exact q⟩
theorem Rp.cell {S : Store} (R : Rp K F φ S H) {p : Addr} {l : List Val} {xs : List V} (h : H p = none) (r : RVs K F φ H l xs) : Rp K F (φ ++ [p]) (S ++ [.lst l]) (L2.upd H p (.lst xs)) := by
  have nf := R.fresh h
  refine ⟨by simp [R.len], ?_, fun i c q => ?_, fun a ha => ?_⟩
  · rw [List.nodup_append]
    refine ⟨R.nd, by simp, fun a ha b hb => ?_⟩
    rw [List.mem_singleton.mp hb]
    exact fun z => nf (z ▸ ha)
  · by_cases hi : i < S.length
    · rw [List.getElem?_append_left hi] at q
      obtain ⟨a, e1, e2⟩ := R.cells i c q
      obtain ⟨u, e3⟩ := e2.there
      exact ⟨a, (Ext.cell (o := .lst xs) h).at e1, e2.upd (Ext.cell h) (ne_of_none e3 h)⟩
    · have hl : i < (S ++ [Cell.lst l]).length := (List.getElem?_eq_some_iff.mp q).1
      rw [List.length_append, List.length_singleton] at hl
      have e : i = S.length := by omega
      subst e
      rw [List.getElem?_append_right (Nat.le_refl _)] at q
      simp at q
      subst q
      refine ⟨p, ?_, xs, upd_same, RVs.mono (Ext.cell h) _ _ r⟩
      rw [← R.len, List.getElem?_append_right (Nat.le_refl _)]
      simp
  · obtain ⟨n, u, q⟩ := R.forb a ha
    refine ⟨fun hm => ?_, u, by rw [upd_ne (ne_of_none q h)]; exact q⟩
    rcases List.mem_append.mp hm with hm | hm
    · exact n hm
    · rw [List.mem_singleton.mp hm, h] at q
      cases q
theorem Rp.lst {S : Store} (R : Rp K F φ S H) {i : Nat} {a : Addr} {l : List Val} (ha : φ[i]? = some a) (q : S[i]? = some (.lst l)) : ∃ xs, H a = some (.lst xs) ∧ RVs K F φ H l xs := by
  obtain ⟨b, e1, e2⟩ := R.cells i _ q
  rw [ha] at e1
  cases e1
  exact e2
theorem Rp.set {S : Store} (R : Rp K F φ S H) {i : Nat} {a : Addr} {l0 l : List Val} {xs : List V} (ha : φ[i]? = some a) (q : S[i]? = some (.lst l0)) (r : RVs K F φ H l xs) :
    Ext φ H φ (L2.upd H a (.lst xs)) ∧ Rp K F φ (S.set i (.lst l)) (L2.upd H a (.lst xs)) := by
  obtain ⟨ys, h, _⟩ := R.lst ha q
  have hm : a ∈ φ := List.mem_of_getElem? ha
  have e : Ext φ H φ (L2.upd H a (.lst xs)) := Ext.setL hm h
  refine ⟨e, by rw [List.length_set]; exact R.len, R.nd, fun j c qc => ?_, fun b hb => ?_⟩
  · by_cases hj : j = i
    · subst hj
      rw [List.getElem?_set_self (List.getElem?_eq_some_iff.mp q).1] at qc
      cases qc
      exact ⟨a, ha, xs, upd_same, RVs.mono e _ _ r⟩
    · rw [List.getElem?_set_ne (Ne.symm hj)] at qc
      obtain ⟨b, e1, e2⟩ := R.cells j c qc
      exact ⟨b, e1, e2.upd e fun z => hj (R.inj (z ▸ e1) ha)⟩
  · obtain ⟨n, u, q2⟩ := R.forb b hb
    have z : b ≠ a := fun z => n (z ▸ hm)
    exact ⟨n, u, by rw [upd_ne z]; exact q2⟩
end

/-! ### slots -/
abbrev VEnv := List (Option Val)
def RE (K : Frg) (F φ : List Addr) (H : Hp) (env : VEnv) (σ : L2.St) : Prop := env.length = σ.length ∧ ∀ (i : Nat) d, env[i]? = some (some d) → ∃ v, σ[i]? = some (some v) ∧ RV K F φ H d v
section
variable {K : Frg} {F φ φ' : List Addr} {H H' : Hp} {env : VEnv} {σ : L2.St}
theorem RE.mono (e : Ext φ H φ' H') (r : RE K F φ H env σ) : RE K F φ' H' env σ := ⟨r.1, fun i d h => by
  obtain ⟨v, h1, h2⟩ := r.2 i d h
  exact ⟨v, h1, RV.mono e d v h2⟩⟩
theorem RE.set {d : Val} {v : V} (r : RE K F φ H env σ) (h : RV K F φ H d v) (i : Nat) : RE K F φ H (env.set i (some d)) (σ.set i (some v)) := by
  refine ⟨by simp [r.1], fun j e q => ?_⟩
  have hj := (List.getElem?_eq_some_iff.mp q).1
  rw [List.length_set] at hj
  by_cases z : j = i
  · subst z
    rw [List.getElem?_set_self hj] at q
    cases q
    exact ⟨v, by rw [List.getElem?_set_self (by rw [← r.1]; exact hj)], h⟩
  · rw [List.getElem?_set_ne (Ne.symm z)] at q
    rw [List.getElem?_set_ne (Ne.symm z)]
    exact r.2 j e q
end

/-! ### what implements what -/
abbrev MM (α : Type) := VEnv → Store → Option (α × Store)
abbrev ME := MM Val
abbrev MT := MM Bool
abbrev MA := MM (List Val)
/-- the wish behind an evaluation -/
def Aft (K : Frg) (F φ : List Addr) (H : Hp) (S' : Store) (d : Val) (Q : VK) : Prop := ∀ φ' H' v, Ext φ H φ' H' → Rp K F φ' S' H' → RV K F φ' H' d v → Q v H'
def AftB (K : Frg) (F φ : List Addr) (H : Hp) (S' : Store) (b : Bool) (Q : Bool → Hp → Prop) : Prop := ∀ φ' H', Ext φ H φ' H' → Rp K F φ' S' H' → Q b H'
def AftA (K : Frg) (F φ : List Addr) (H : Hp) (S' : Store) (ds : List Val) (Q : List V → Hp → Prop) : Prop := ∀ φ' H' vs, Ext φ H φ' H' → Rp K F φ' S' H' → RVs K F φ' H' ds vs → Q vs H'
def Im (K : Frg) (t : TE) (m : ME) : Prop := ∀ F φ S H σ env d S', Rp K F φ S H → RE K F φ H env σ → m env S = some (d, S') → ∀ Q : VK, Aft K F φ H S' d Q → t σ H Q
def ImT (K : Frg) (t : TT) (m : MT) : Prop := ∀ F φ S H σ env b S', Rp K F φ S H → RE K F φ H env σ → m env S = some (b, S') → ∀ Q : Bool → Hp → Prop, AftB K F φ H S' b Q → t σ H Q
def ImA (K : Frg) (t : TA) (m : MA) : Prop := ∀ F φ S H σ env ds S', Rp K F φ S H → RE K F φ H env σ → m env S = some (ds, S') → ∀ Q : List V → Hp → Prop, AftA K F φ H S' ds Q → t σ H Q
def EI (X : Cx) (e : Expr) (m : ME) : Prop := ∃ t, PE X e t ∧ Im X.K t m
def TI (X : Cx) (e : Expr) (m : MT) : Prop := ∃ t, PT X e t ∧ ImT X.K t m
/-- a test, whatever its whole is -/
def WI (X : Cx) (e : Expr) (m : MT) : Prop := ∃ t, PW X e t ∧ ImT X.K t m
def AI (X : Cx) (es : List Expr) (m : MA) : Prop := ∃ t, PA X es t ∧ ImA X.K t m

def bnd {α β : Type} (m : Option (α × Store)) (f : α → Store → Option (β × Store)) : Option (β × Store) := match m with
  | some (a, S) => f a S
  | none => none
theorem nr {α : Sort u} {a b : α} (h : a = b) : a = b := h
@[simp] theorem bnd_ok {α β : Type} (a : α) (S : Store) (f : α → Store → Option (β × Store)) : bnd (some (a, S)) f = f a S := nr rfl
@[simp] theorem bnd_none {α β : Type} (f : α → Store → Option (β × Store)) : bnd none f = none := nr rfl
theorem bnd_some {α β : Type} {m : Option (α × Store)} {f : α → Store → Option (β × Store)} {r : β × Store} (h : bnd m f = some r) : ∃ a S, m = some (a, S) ∧ f a S = some r := by
  cases m with
  | none => cases h
  | some p => exact ⟨p.1, p.2, rfl, h⟩

section
variable {K : Frg} {F φ φ' : List Addr} {H H' : Hp} {S' : Store}
theorem Aft.mono {d : Val} {Q : VK} (a : Aft K F φ H S' d Q) (e : Ext φ H φ' H') : Aft K F φ' H' S' d Q := fun φ2 H2 v e2 r q => a φ2 H2 v (e.trans e2) r q
theorem AftB.mono {d : Bool} {Q : Bool → Hp → Prop} (a : AftB K F φ H S' d Q) (e : Ext φ H φ' H') : AftB K F φ' H' S' d Q := fun φ2 H2 e2 r => a φ2 H2 (e.trans e2) r
theorem AftA.mono {d : List Val} {Q : List V → Hp → Prop} (a : AftA K F φ H S' d Q) (e : Ext φ H φ' H') : AftA K F φ' H' S' d Q := fun φ2 H2 v e2 r q => a φ2 H2 v (e.trans e2) r q
theorem Aft.now {d : Val} {v : V} {Q : VK} (a : Aft K F φ H S' d Q) (r : Rp K F φ S' H) (q : RV K F φ H d v) : Q v H := a φ H v Ext.refl r q
theorem AftB.now {d : Bool} {Q : Bool → Hp → Prop} (a : AftB K F φ H S' d Q) (r : Rp K F φ S' H) : Q d H := a φ H Ext.refl r
end

/-! ### names, constants -/
def mVar (i : Nat) : ME := fun env S => match env[i]? with | some (some d) => some (d, S) | _ => none
def mC (d : Val) : ME := fun _ S => some (d, S)
section
variable {X : Cx}
theorem ei_v (i : Nat) {x : Str} {pos : Pos} (hN : X.N[i]? = some x := by rfl) (hv : Vis X.env.scope x := by first | exact Or.inl rfl | exact Or.inr (Or.inl rfl) | exact Or.inr (Or.inr rfl)) (hd : (x == ("__debug__" : Str)) = false := by decide)
    (hcd : (x == ("__classdict__" : Str)) = false := by decide) : EI X (.Name x pos) (mVar i) := by
  refine ⟨_, pe_var hN hv hd hcd, fun F φ S H σ env d S' R E h Q a => ?_⟩
  unfold mVar at h
  split at h
  · rename_i d' q
    cases h
    obtain ⟨v, e1, e2⟩ := E.2 i _ q
    exact ⟨v, e1, a.now R e2⟩
  · cases h
theorem im_c {K : Frg} {d : Val} {v : V} (r : ∀ F φ H, RV K F φ H d v) : Im K (tC v) (mC d) := fun F φ S H σ env d' S' R E h Q a => by
  cases h
  exact a.now R (r _ _ _)
theorem ei_int {i j pos} : EI X (.Constant (.int i) j pos) (mC (.int i)) := ⟨_, pe_int, im_c fun _ _ _ => by unfold RV; rfl⟩
theorem ei_bl {b j pos} : EI X (.Constant (.bool b) j pos) (mC (.bl b)) := ⟨_, pe_bl, im_c fun _ _ _ => by unfold RV; rfl⟩
theorem ei_non {j pos} : EI X (.Constant .none j pos) (mC .non) := ⟨_, pe_non, im_c fun _ _ _ => by unfold RV; rfl⟩
theorem ei_str {x j pos} : EI X (.Constant (.str x) j pos) (mC (.str x)) := ⟨_, pe_str, im_c fun _ _ _ => by unfold RV; rfl⟩
/-- a constant of the module -/
theorem ei_glob {x : Str} {v : V} {u : Value} {d : Val} {pos : Pos} (hg : Gl X x) (hm : X.mg x = some u) (r : RelV v u) (hr : ∀ F φ H, RV X.K F φ H d v) (hd : (x == ("__debug__" : Str)) = false := by decide) : EI X (.Name x pos) (mC d) :=
  ⟨_, pe_glob hg hm r hd, im_c hr⟩
end

/-! ### operators -/
abbrev M1 := Val → Store → Option (Val × Store)
abbrev M2 := Val → Val → Store → Option (Val × Store)
abbrev MCall := List Val → Store → Option (Val × Store)
def Im2 (K : Frg) (r : R2) (f : M2) : Prop := ∀ F φ S H a b x y d S', Rp K F φ S H → RV K F φ H a x → RV K F φ H b y → f a b S = some (d, S') → ∀ Q : VK, Aft K F φ H S' d Q → r x y H Q
def Im1 (K : Frg) (r : V → Hp → VK → Prop) (f : M1) : Prop := ∀ F φ S H a x d S', Rp K F φ S H → RV K F φ H a x → f a S = some (d, S') → ∀ Q : VK, Aft K F φ H S' d Q → r x H Q
def ImC (K : Frg) (r : List V → Hp → VK → Prop) (f : MCall) : Prop := ∀ F φ S H as xs d S', Rp K F φ S H → RVs K F φ H as xs → f as S = some (d, S') → ∀ Q : VK, Aft K F φ H S' d Q → r xs H Q
def Op2 (X : Cx) (op : Value → Value → Sem Value) (f : M2) : Prop := ∃ r, OpR X op r ∧ Im2 X.K r f
def Op1 (X : Cx) (op : Value → Sem Value) (f : M1) : Prop := ∃ r, UnR X op r ∧ Im1 X.K r f
def OpC (X : Cx) (g : Value) (f : MCall) : Prop := ∃ r, CallR X g r ∧ ImC X.K r f
def mBin (f : M2) (ma mb : ME) : ME := fun env S => bnd (ma env S) fun x S1 => bnd (mb env S1) fun y S2 => f x y S2
def mUn (f : M1) (ma : ME) : ME := fun env S => bnd (ma env S) fun x S1 => f x S1
section
variable {K : Frg} {ta tb : TE} {ma mb : ME}
theorem im_bin {r : R2} {f : M2} (ha : Im K ta ma) (hb : Im K tb mb) (hr : Im2 K r f) : Im K (tOp r ta tb) (mBin f ma mb) := fun F φ S H σ env d S' R E h Q a => by
  obtain ⟨x, S1, h1, h⟩ := bnd_some h
  obtain ⟨y, S2, h2, h⟩ := bnd_some h
  refine ha F φ S H σ env x S1 R E h1 _ fun φ1 H1 v e1 R1 r1 => ?_
  refine hb F φ1 S1 H1 σ env y S2 R1 (E.mono e1) h2 _ fun φ2 H2 u e2 R2 r2 => ?_
  exact hr F φ2 S2 H2 x y v u d S' R2 (RV.mono e2 _ _ r1) r2 h Q (a.mono (e1.trans e2))
theorem im_un {r : V → Hp → VK → Prop} {f : M1} (ha : Im K ta ma) (hr : Im1 K r f) : Im K (tUn r ta) (mUn f ma) := fun F φ S H σ env d S' R E h Q a => by
  obtain ⟨x, S1, h1, h⟩ := bnd_some h
  refine ha F φ S H σ env x S1 R E h1 _ fun φ1 H1 v e1 R1 r1 => ?_
  exact hr F φ1 S1 H1 x v d S' R1 r1 h Q (a.mono e1)
end
section
variable {X : Cx} {a b : Expr} {ma mb : ME} {pos : Pos}
theorem ei_op {op : Operator} {f : M2} (ho : Op2 X (binaryOp op) f) (ha : EI X a ma) (hb : EI X b mb) : EI X (.BinOp a op b pos) (mBin f ma mb) := by
  obtain ⟨r, o, i⟩ := ho
  obtain ⟨ta, pa, ia⟩ := ha
  obtain ⟨tb, pb, ib⟩ := hb
  exact ⟨_, pe_op o pa pb, im_bin ia ib i⟩
theorem ei_un {op : UnaryOp} {f : M1} (ho : Op1 X (unaryOp op) f) (ha : EI X a ma) : EI X (.UnaryOp op a pos) (mUn f ma) := by
  obtain ⟨r, o, i⟩ := ho
  obtain ⟨ta, pa, ia⟩ := ha
  exact ⟨_, pe_un o pa, im_un ia i⟩
theorem ei_cmp {op : CmpOp} {f : M2} (ho : Op2 X (compareOp op) f) (ha : EI X a ma) (hb : EI X b mb) (hm : behindInMarks op b = false) : EI X (.Compare a [op] [b] pos) (mBin f ma mb) := by
  obtain ⟨r, o, i⟩ := ho
  obtain ⟨ta, pa, ia⟩ := ha
  obtain ⟨tb, pb, ib⟩ := hb
  exact ⟨_, pe_cmpR o pa pb hm, im_bin ia ib i⟩
/-- an expression's bool as a test -/
def mTest (m : ME) : MT := fun env S => bnd (m env S) fun d S1 => match d with | .bl b => some (b, S1) | _ => none
theorem im_test {K : Frg} {t : TE} {m : ME} (h : Im K t m) : ImT K (tTest t) (mTest m) := fun F φ S H σ env b S' R E q Q a => by
  obtain ⟨d, S1, h1, q⟩ := bnd_some q
  refine h F φ S H σ env d S1 R E h1 _ fun φ1 H1 v e1 R1 r1 => ?_
  cases d with
  | bl c =>
    cases q
    unfold RV at r1
    exact ⟨b, r1, a φ1 H1 e1 R1⟩
  | _ => cases q
theorem ti_cmp {op : CmpOp} {f : M2} (ho : Op2 X (compareOp op) f) (ha : EI X a ma) (hb : EI X b mb) (hm : behindInMarks op b = false) : TI X (.Compare a [op] [b] pos) (mTest (mBin f ma mb)) := by
  obtain ⟨r, o, i⟩ := ho
  obtain ⟨ta, pa, ia⟩ := ha
  obtain ⟨tb, pb, ib⟩ := hb
  exact ⟨_, pt_cmpR o pa pb hm, im_test (im_bin ia ib i)⟩
def mAnd (m n : MT) : MT := fun env S => bnd (m env S) fun b S1 => if b = true then n env S1 else some (false, S1)
def mOr (m n : MT) : MT := fun env S => bnd (m env S) fun b S1 => if b = true then some (true, S1) else n env S1
def mNot (m : MT) : MT := fun env S => bnd (m env S) fun b S1 => some (!b, S1)
variable {m n : MT} {rest : List Expr}
theorem wi_and1 (h : TI X a m) : WI X (.BoolOp .And [a] pos) m := by
  obtain ⟨t, p, i⟩ := h
  exact ⟨_, pw_and1 p, i⟩
theorem wi_or1 (h : TI X a m) : WI X (.BoolOp .Or [a] pos) m := by
  obtain ⟨t, p, i⟩ := h
  exact ⟨_, pw_or1 p, i⟩
theorem wi_and (h : TI X a m) (g : WI X (.BoolOp .And (b :: rest) pos) n) : WI X (.BoolOp .And (a :: b :: rest) pos) (mAnd m n) := by
  obtain ⟨t, p, i⟩ := h
  obtain ⟨u, q, j⟩ := g
  refine ⟨_, pw_and p q, fun F φ S H σ env b S' R E h Q a => ?_⟩
  obtain ⟨c, S1, h1, h⟩ := bnd_some h
  refine i F φ S H σ env c S1 R E h1 _ fun φ1 H1 e1 R1 => ?_
  cases c with
  | true => exact j F φ1 S1 H1 σ env b S' R1 (E.mono e1) h Q (a.mono e1)
  | false =>
    cases h
    exact a φ1 H1 e1 R1
theorem wi_or (h : TI X a m) (g : WI X (.BoolOp .Or (b :: rest) pos) n) : WI X (.BoolOp .Or (a :: b :: rest) pos) (mOr m n) := by
  obtain ⟨t, p, i⟩ := h
  obtain ⟨u, q, j⟩ := g
  refine ⟨_, pw_or p q, fun F φ S H σ env b S' R E h Q a => ?_⟩
  obtain ⟨c, S1, h1, h⟩ := bnd_some h
  refine i F φ S H σ env c S1 R E h1 _ fun φ1 H1 e1 R1 => ?_
  cases c with
  | false => exact j F φ1 S1 H1 σ env b S' R1 (E.mono e1) h Q (a.mono e1)
  | true =>
    cases h
    exact a φ1 H1 e1 R1
theorem ti_w (h : WI X a m) : TI X a m := by
  obtain ⟨t, p, i⟩ := h
  exact ⟨_, p.pt, i⟩
theorem ti_not (h : TI X a m) : TI X (.UnaryOp .Not a pos) (mNot m) := by
  obtain ⟨t, p, i⟩ := h
  refine ⟨_, pt_not p, fun F φ S H σ env b S' R E h Q a => ?_⟩
  obtain ⟨c, S1, h1, h⟩ := bnd_some h
  cases h
  exact i F φ S H σ env c S' R E h1 _ fun φ1 H1 e1 R1 => a φ1 H1 e1 R1
/-- an expression whose value is a bool, as a test -/
theorem ti_val (h : EI X a ma) (he : ∀ whole, isTrue a X.env whole = (do let v ← whole; standAt a.pos; holding [v] (truthy v)) := by intro _; rfl) : TI X a (mTest ma) := by
  obtain ⟨t, p, i⟩ := h
  exact ⟨_, pt_val p he, im_test i⟩
/-- and, or, not as values (bools) -/
def mAndV (m n : ME) : ME := fun env S => bnd (mTest m env S) fun b S1 => if b = true then n env S1 else some (.bl false, S1)
def mOrV (m n : ME) : ME := fun env S => bnd (mTest m env S) fun b S1 => if b = true then some (.bl true, S1) else n env S1
def mNotV (m : ME) : ME := fun env S => bnd (mTest m env S) fun b S1 => some (.bl (!b), S1)
theorem ei_one {op} (h : EI X a ma) : EI X (.BoolOp op [a] pos) ma := by
  obtain ⟨t, p, i⟩ := h
  exact ⟨_, pe_one p, i⟩
theorem ei_and (h : EI X a ma) (g : EI X (.BoolOp .And (b :: rest) pos) mb) : EI X (.BoolOp .And (a :: b :: rest) pos) (mAndV ma mb) := by
  obtain ⟨t, p, i⟩ := h
  obtain ⟨u, q, j⟩ := g
  refine ⟨_, pe_and p q, fun F φ S H σ env d S' R E h Q a => ?_⟩
  obtain ⟨c, S1, h1, h⟩ := bnd_some h
  refine im_test i F φ S H σ env c S1 R E h1 _ fun φ1 H1 e1 R1 => ?_
  cases c with
  | true => exact j F φ1 S1 H1 σ env d S' R1 (E.mono e1) h Q (a.mono e1)
  | false =>
    cases h
    exact a φ1 H1 _ e1 R1 (by unfold RV; rfl)
theorem ei_or (h : EI X a ma) (g : EI X (.BoolOp .Or (b :: rest) pos) mb) : EI X (.BoolOp .Or (a :: b :: rest) pos) (mOrV ma mb) := by
  obtain ⟨t, p, i⟩ := h
  obtain ⟨u, q, j⟩ := g
  refine ⟨_, pe_or p q, fun F φ S H σ env d S' R E h Q a => ?_⟩
  obtain ⟨c, S1, h1, h⟩ := bnd_some h
  refine im_test i F φ S H σ env c S1 R E h1 _ fun φ1 H1 e1 R1 => ?_
  cases c with
  | false => exact j F φ1 S1 H1 σ env d S' R1 (E.mono e1) h Q (a.mono e1)
  | true =>
    cases h
    exact a φ1 H1 _ e1 R1 (by unfold RV; rfl)
theorem ei_not (h : EI X a ma) : EI X (.UnaryOp .Not a pos) (mNotV ma) := by
  obtain ⟨t, p, i⟩ := h
  refine ⟨_, pe_not p, fun F φ S H σ env d S' R E h Q a => ?_⟩
  obtain ⟨c, S1, h1, h⟩ := bnd_some h
  cases h
  exact im_test i F φ S H σ env c S' R E h1 _ fun φ1 H1 e1 R1 => a φ1 H1 _ e1 R1 (by unfold RV; rfl)
def mIf (m : MT) (ma mb : ME) : ME := fun env S => bnd (m env S) fun b S1 => if b = true then ma env S1 else mb env S1
theorem ei_if {c : Expr} (h : TI X c m) (ha : EI X a ma) (hb : EI X b mb) : EI X (.IfExp c a b pos) (mIf m ma mb) := by
  obtain ⟨t, p, i⟩ := h
  obtain ⟨ta, pa, ia⟩ := ha
  obtain ⟨tb, pb, ib⟩ := hb
  refine ⟨_, pe_ifExp p pa pb, fun F φ S H σ env d S' R E h Q a => ?_⟩
  obtain ⟨c, S1, h1, h⟩ := bnd_some h
  refine i F φ S H σ env c S1 R E h1 _ fun φ1 H1 e1 R1 => ?_
  cases c with
  | true => exact ia F φ1 S1 H1 σ env d S' R1 (E.mono e1) h Q (a.mono e1)
  | false => exact ib F φ1 S1 H1 σ env d S' R1 (E.mono e1) h Q (a.mono e1)
/-! ### arguments, displays -/
def mNil : MA := fun _ S => some ([], S)
def mCons (m : ME) (ms : MA) : MA := fun env S => bnd (m env S) fun d S1 => bnd (ms env S1) fun ds S2 => some (d :: ds, S2)
variable {es : List Expr} {ms : MA} {e : Expr} {me : ME}
theorem ai_nil : AI X [] mNil := ⟨_, pa_nil, fun F φ S H σ env ds S' R E h Q a => by
  cases h
  exact a φ H [] Ext.refl R RVs.nil⟩
theorem ai_cons (h : EI X e me) (g : AI X es ms) (hs : starEach (e :: es) X.env = (false, eval e X.env) :: starEach es X.env := by rfl) : AI X (e :: es) (mCons me ms) := by
  obtain ⟨t, p, i⟩ := h
  obtain ⟨u, q, j⟩ := g
  refine ⟨_, pa_cons p q hs, fun F φ S H σ env ds S' R E h Q a => ?_⟩
  obtain ⟨d, S1, h1, h⟩ := bnd_some h
  obtain ⟨ds', S2, h2, h⟩ := bnd_some h
  cases h
  refine i F φ S H σ env d S1 R E h1 _ fun φ1 H1 v e1 R1 r1 => ?_
  refine j F φ1 S1 H1 σ env ds' S' R1 (E.mono e1) h2 _ fun φ2 H2 vs e2 R2 r2 => ?_
  exact a φ2 H2 _ (e1.trans e2) R2 (.cons (RV.mono e2 _ _ r1) r2)
def mTup (ms : MA) : ME := fun env S => bnd (ms env S) fun ds S1 => if ds.length ≤ sizeLine then some (.tup ds, S1) else none
/-- a list that stays as it is; a list that may change -/
def mFro (ms : MA) : ME := fun env S => bnd (ms env S) fun ds S1 => if ds.length ≤ sizeLine then some (.fro ds, S1) else none
def mLst (ms : MA) : ME := fun env S => bnd (ms env S) fun ds S1 => if ds.length ≤ sizeLine then some (.ref S1.length, S1 ++ [.lst ds]) else none
theorem Aft.tup {K : Frg} {F φ : List Addr} {H : Hp} {S : Store} {ds : List Val} {xs : List V} {Q : VK} (a : Aft K F φ H S (.tup ds) Q) (R : Rp K F φ S H) (r : RVs K F φ H ds xs) {p : Addr} (hp : H p = none) : Q (.ref p) (upd H p (.tup xs)) := by
  refine a φ _ _ (Ext.new hp) (R.new hp) ?_
  unfold RV
  exact ⟨p, xs, rfl, SqT.of upd_same, RVs.mono (Ext.new hp) _ _ r⟩
theorem Aft.fro {K : Frg} {F φ : List Addr} {H : Hp} {S : Store} {ds : List Val} {xs : List V} {Q : VK} (a : Aft K F φ H S (.fro ds) Q) (R : Rp K F φ S H) (r : RVs K F φ H ds xs) {p : Addr} (hp : H p = none) : Q (.ref p) (upd H p (.lst xs)) := by
  refine a φ _ _ (Ext.new hp) (R.new hp) ?_
  unfold RV
  exact ⟨p, xs, rfl, R.fresh hp, R.freshF hp, upd_same, RVs.mono (Ext.new hp) _ _ r⟩
theorem Aft.lst {K : Frg} {F φ : List Addr} {H : Hp} {S : Store} {ds : List Val} {xs : List V} {Q : VK} (a : Aft K F φ H (S ++ [.lst ds]) (.ref S.length) Q) (R : Rp K F φ S H) (r : RVs K F φ H ds xs) {p : Addr} (hp : H p = none) : Q (.ref p) (upd H p (.lst xs)) := by
  refine a (φ ++ [p]) _ _ (Ext.cell hp) (R.cell hp r) ?_
  unfold RV
  refine ⟨p, rfl, ?_⟩
  rw [← R.len, List.getElem?_append_right (Nat.le_refl _)]
  simp
theorem ei_tup {k} (h : AI X es ms) : EI X (.Tuple es k pos) (mTup ms) := by
  obtain ⟨t, p, i⟩ := h
  refine ⟨_, pe_tup p, fun F φ S H σ env d S' R E h Q a => ?_⟩
  obtain ⟨ds, S1, h1, h⟩ := bnd_some h
  split at h
  · rename_i hz
    cases h
    refine i F φ S H σ env ds S' R E h1 _ fun φ1 H1 vs e1 R1 r1 => ?_
    exact ⟨by rw [r1.length]; exact hz, fun p hp => (a.mono e1).tup R1 r1 hp⟩
  · cases h
theorem ei_fro (h : AI X es ms) : EI X (.List es pos) (mFro ms) := by
  obtain ⟨t, p, i⟩ := h
  refine ⟨_, pe_lst p, fun F φ S H σ env d S' R E h Q a => ?_⟩
  obtain ⟨ds, S1, h1, h⟩ := bnd_some h
  split at h
  · rename_i hz
    cases h
    refine i F φ S H σ env ds S' R E h1 _ fun φ1 H1 vs e1 R1 r1 => ?_
    exact ⟨by rw [r1.length]; exact hz, fun p hp => (a.mono e1).fro R1 r1 hp⟩
  · cases h
theorem ei_lst (h : AI X es ms) : EI X (.List es pos) (mLst ms) := by
  obtain ⟨t, p, i⟩ := h
  refine ⟨_, pe_lst p, fun F φ S H σ env d S' R E h Q a => ?_⟩
  obtain ⟨ds, S1, h1, h⟩ := bnd_some h
  split at h
  · rename_i hz
    cases h
    refine i F φ S H σ env ds S1 R E h1 _ fun φ1 H1 vs e1 R1 r1 => ?_
    exact ⟨by rw [r1.length]; exact hz, fun p hp => (a.mono e1).lst R1 r1 hp⟩
  · cases h
/-- a built-in's call -/
def mCall (f : MCall) (ms : MA) : ME := fun env S => bnd (ms env S) fun ds S1 => f ds S1
end
end Fx
/-! What operators and built-ins do to values. -/
namespace Fx
open PySem PySem.Spec PyProof.Rows L2

/-! ### a value as data -/
mutual
def toPy : Val → Option PyData
  | .non => some .none
  | .bl b => some (.bool b)
  | .int i => some (.int i)
  | .str x => some (.str x)
  | .tup l => (toPyL l).map .tuple
  | .fro l => (toPyL l).map .list
  | .scr l => (toPyL l).map .list
  | .ref _ => none
  | .obj _ _ _ => none
  | .raw _ => none
def toPyL : List Val → Option (List PyData)
  | [] => some []
  | d :: ds => (toPy d).bind fun p => (toPyL ds).map fun ps => p :: ps
end
section
variable {K : Frg} {F φ : List Addr} {H : Hp}
mutual
theorem dp_of : ∀ (d : Val) (v : V) (p : PyData), toPy d = some p → RV K F φ H d v → Dp K H v p
  | .non, v, p, e, r => by
    unfold toPy at e
    unfold RV at r
    cases e
    subst r
    exact .non
  | .bl b, v, p, e, r => by
    unfold toPy at e
    unfold RV at r
    cases e
    subst r
    exact .bl b
  | .int b, v, p, e, r => by
    unfold toPy at e
    unfold RV at r
    cases e
    subst r
    exact .int b
  | .str b, v, p, e, r => by
    unfold toPy at e
    unfold RV at r
    cases e
    subst r
    exact .str b
  | .tup l, v, p, e, r => by
    unfold toPy at e
    unfold RV at r
    obtain ⟨a, xs, h1, h2, h3⟩ := r
    cases q : toPyL l with
    | none => rw [q] at e; cases e
    | some ps =>
      rw [q] at e
      cases e
      subst h1
      exact .tup h2 (dp_ofL l xs ps q h3)
  | .fro l, v, p, e, r => by
    unfold toPy at e
    unfold RV at r
    obtain ⟨a, xs, h1, _, _, h2, h3⟩ := r
    cases q : toPyL l with
    | none => rw [q] at e; cases e
    | some ps =>
      rw [q] at e
      cases e
      subst h1
      exact .lst (SqL.of h2) (dp_ofL l xs ps q h3)
  | .scr l, v, p, e, r => by
    unfold toPy at e
    unfold RV at r
    obtain ⟨a, xs, h1, h2, h3⟩ := r
    cases q : toPyL l with
    | none => rw [q] at e; cases e
    | some ps =>
      rw [q] at e
      cases e
      subst h1
      exact .lst h2.sq (dp_ofL l xs ps q h3)
  | .ref _, v, p, e, r => by unfold toPy at e; cases e
  | .obj _ _ _, v, p, e, r => by unfold toPy at e; cases e
  | .raw _, v, p, e, r => by unfold toPy at e; cases e
theorem dp_ofL : ∀ (ds : List Val) (vs : List V) (ps : List PyData), toPyL ds = some ps → RVs K F φ H ds vs → DpAll K H vs ps
  | [], vs, ps, e, r => by
    unfold toPyL at e
    cases e
    rw [r.inv0]
    exact .nil
  | d :: ds, vs, ps, e, r => by
    unfold toPyL at e
    obtain ⟨v, ws, h1, h2, h3⟩ := r.inv
    cases q : toPy d with
    | none => rw [q] at e; cases e
    | some p =>
      cases q2 : toPyL ds with
      | none => rw [q, q2] at e; cases e
      | some ps' =>
        rw [q, q2] at e
        cases e
        subst h1
        exact .cons (dp_of d v p q h2) (dp_ofL ds ws ps' q2 h3)
end
end
/-- a list of the store, read as it is now -/
def topV (S : Store) : Val → Val
  | .ref i => match S[i]? with
    | some (.lst l) => .fro l
    | _ => .ref i
  | d => d
def pyOf (S : Store) (d : Val) : Option PyData := toPy (topV S d)
/-- the items of a list; of a tuple -/
def lstOf (S : Store) : Val → Option (List Val)
  | .fro l => some l
  | .scr l => some l
  | .ref i => match S[i]? with
    | some (.lst l) => some l
    | _ => none
  | _ => none
def tupOf : Val → Option (List Val)
  | .tup l => some l
  | _ => none
section
variable {K : Frg} {F φ : List Addr} {H : Hp} {S : Store}
theorem lst_of (R : Rp K F φ S H) {d : Val} {v : V} {l : List Val} (e : lstOf S d = some l) (r : RV K F φ H d v) : ∃ a xs, v = .ref a ∧ SqL K H a xs ∧ RVs K F φ H l xs := by
  unfold lstOf at e
  split at e
  · cases e
    unfold RV at r
    obtain ⟨a, xs, h1, _, _, h2, h3⟩ := r
    exact ⟨a, xs, h1, SqL.of h2, h3⟩
  · cases e
    unfold RV at r
    obtain ⟨a, xs, h1, h2, h3⟩ := r
    exact ⟨a, xs, h1, h2.sq, h3⟩
  · split at e
    · rename_i q
      cases e
      unfold RV at r
      obtain ⟨a, h1, h2⟩ := r
      obtain ⟨xs, h3, h4⟩ := R.lst h2 q
      exact ⟨a, xs, h1, SqL.of h3, h4⟩
    · cases e
  · cases e
theorem tup_of {d : Val} {v : V} {l : List Val} (e : tupOf d = some l) (r : RV K F φ H d v) : ∃ a xs, v = .ref a ∧ SqT K H a xs ∧ RVs K F φ H l xs := by
  unfold tupOf at e
  split at e
  · cases e
    unfold RV at r
    exact r
  · cases e
theorem dp_ofS (R : Rp K F φ S H) {d : Val} {v : V} {p : PyData} (e : pyOf S d = some p) (r : RV K F φ H d v) : Dp K H v p := by
  unfold pyOf topV at e
  split at e
  · split at e
    · rename_i q
      unfold RV at r
      obtain ⟨a, h1, h2⟩ := r
      obtain ⟨xs, h3, h4⟩ := R.lst h2 q
      unfold toPy at e
      cases q2 : toPyL _ with
      | none => rw [q2] at e; cases e
      | some ps =>
        rw [q2] at e
        cases e
        subst h1
        exact .lst (SqL.of h3) (dp_ofL _ _ _ q2 h4)
    · unfold toPy at e
      cases e
  · exact dp_of _ _ _ e r
end

/-! ### values that are ints, texts -/
section
variable {K : Frg} {F φ : List Addr} {H : Hp} {v : V}
theorem rv_non : RV K F φ H .non .non := by unfold RV; rfl
theorem rv_bl {b : Bool} : RV K F φ H (.bl b) (.bl b) := by unfold RV; rfl
theorem rv_int {b : Int} : RV K F φ H (.int b) (.int b) := by unfold RV; rfl
theorem rv_str {b : Str} : RV K F φ H (.str b) (.str b) := by unfold RV; rfl
theorem RV.bl {b : Bool} (h : RV K F φ H (.bl b) v) : v = .bl b := by unfold RV at h; exact h
theorem RV.int {b : Int} (h : RV K F φ H (.int b) v) : v = .int b := by unfold RV at h; exact h
theorem RV.str {b : Str} (h : RV K F φ H (.str b) v) : v = .str b := by unfold RV at h; exact h
theorem RV.non (h : RV K F φ H .non v) : v = .non := by unfold RV at h; exact h
end

/-! ### operators of two -/
def vInt2 (g : Int → Int → Option Val) : M2 := fun a b S => match a, b with
  | .int i, .int j => (g i j).map fun d => (d, S)
  | _, _ => none
theorem im2_int {K : Frg} {C : Int → Int → Prop} [∀ i j, Decidable (C i j)] {g : Int → Int → V} {h : Int → Int → Val} (hr : ∀ F φ H i j, RV K F φ H (h i j) (g i j)) : Im2 K (rI C g) (vInt2 fun i j => if C i j then some (h i j) else none) := fun F φ S H a b x y d S' R ra rb e Q q => by
  unfold vInt2 at e
  split at e
  · rename_i i j
    dsimp only at e
    split at e
    · rename_i hc
      cases e
      exact ⟨i, j, ra.int, rb.int, hc, q.now R (hr _ _ _ _ _)⟩
    · cases e
  · cases e
theorem im2_int0 {K : Frg} {g : Int → Int → V} {h : Int → Int → Val} (hr : ∀ F φ H i j, RV K F φ H (h i j) (g i j)) : Im2 K (rI0 g) (vInt2 fun i j => some (h i j)) := fun F φ S H a b x y d S' R ra rb e Q q => by
  unfold vInt2 at e
  split at e
  · rename_i i j
    cases e
    exact ⟨i, j, ra.int, rb.int, q.now R (hr _ _ _ _ _)⟩
  · cases e
theorem Im2.or {K : Frg} {r r' : R2} {f g : M2} (h : Im2 K r f) (h' : Im2 K r' g) : Im2 K (fun x y H Q => r x y H Q ∨ r' x y H Q) (fun a b S => (f a b S).or (g a b S)) := fun F φ S H a b x y d S' R ra rb e Q q => by
  dsimp only at e
  cases e1 : f a b S with
  | none =>
    rw [e1] at e
    exact .inr (h' F φ S H a b x y d S' R ra rb e Q q)
  | some p =>
    rw [e1] at e
    cases e
    exact .inl (h F φ S H a b x y d S' R ra rb e1 Q q)
theorem Op2.or {X : Cx} {op : Value → Value → Sem Value} {f g : M2} (h : Op2 X op f) (h' : Op2 X op g) : Op2 X op (fun a b S => (f a b S).or (g a b S)) := by
  obtain ⟨r, o, i⟩ := h
  obtain ⟨r', o', i'⟩ := h'
  exact ⟨_, o.or o', i.or i'⟩
theorem Op2.of {X : Cx} {op : Value → Value → Sem Value} {f g : M2} (h : Op2 X op f) (e : ∀ a b S r, g a b S = some r → f a b S = some r) : Op2 X op g := by
  obtain ⟨r, o, i⟩ := h
  exact ⟨r, o, fun F φ S H a b x y d S' R ra rb q => i F φ S H a b x y d S' R ra rb (e _ _ _ _ q)⟩
instance (i j : Int) : Decidable (CDivN i j) := inferInstanceAs (Decidable (_ ∧ _))
instance (i j : Int) : Decidable (CPow i j) := inferInstanceAs (Decidable (_ ∧ _ ∧ _))
instance (i j : Int) : Decidable (CMul i j) := inferInstanceAs (Decidable (_ ∨ _))

/-- + -/
def vAdd : M2 := fun a b S => match a, b with
  | .int i, .int j => some (.int (i + j), S)
  | .str x, .str y => if x.length + y.length ≤ sizeLine then some (.str (x ++ y), S) else none
  | .tup l, .tup m => if l.length + m.length ≤ sizeLine then some (.tup (l ++ m), S) else none
  | .fro l, .fro m => if l.length + m.length ≤ sizeLine then some (.fro (l ++ m), S) else none
  | _, _ => none
section
variable {X : Cx}
theorem op2_add : Op2 X (binaryOp .Add) vAdd := by
  refine ⟨_, (op_add.or (op_add_str.or (op_catA.or op_cat))), fun F φ S H a b x y d S' R ra rb e Q q => ?_⟩
  unfold vAdd at e
  split at e
  · rename_i i j
    cases e
    exact .inl ⟨i, j, ra.int, rb.int, q.now R rv_int⟩
  · rename_i i j
    split at e
    · rename_i hz
      cases e
      exact .inr (.inl ⟨i, j, ra.str, rb.str, hz, q.now R rv_str⟩)
    · cases e
  · rename_i l m
    split at e
    · rename_i hz
      cases e
      have ra' := ra
      have rb' := rb
      unfold RV at ra' rb'
      obtain ⟨p1, xs, h1, h2, h3⟩ := ra'
      obtain ⟨p2, ys, g1, g2, g3⟩ := rb'
      refine .inr (.inr (.inl ⟨p1, p2, xs, ys, h1, g1, h2, g2, by rw [h3.length, g3.length]; exact hz, fun ex => ?_, fun _ ey => ?_, fun _ _ p hp => ?_⟩))
      · subst ex
        have el : l = [] := by
          have := h3.length
          cases l with
          | nil => rfl
          | cons _ _ => simp at this
        subst el
        rw [List.nil_append] at q
        rw [← g1]
        exact q.now R rb
      · subst ey
        have el : m = [] := by
          have := g3.length
          cases m with
          | nil => rfl
          | cons _ _ => simp at this
        subst el
        rw [List.append_nil] at q
        rw [← h1]
        exact q.now R ra
      · exact q.tup R (h3.append g3) hp
    · cases e
  · rename_i l m
    split at e
    · rename_i hz
      cases e
      unfold RV at ra rb
      obtain ⟨p1, xs, h1, _, _, h2, h3⟩ := ra
      obtain ⟨p2, ys, g1, _, _, g2, g3⟩ := rb
      exact .inr (.inr (.inr ⟨p1, p2, xs, ys, h1, g1, h2, g2, by rw [h3.length, g3.length]; exact hz, fun p hp => q.fro R (h3.append g3) hp⟩))
    · cases e
  · cases e
def vSub : M2 := vInt2 fun i j => some (.int (i - j))
theorem op2_sub : Op2 X (binaryOp .Sub) vSub := ⟨_, op_sub, im2_int0 fun _ _ _ _ _ => rv_int⟩
def vDiv : M2 := vInt2 fun i j => if CDivN i j then some (.int (i.fdiv j)) else none
theorem op2_div : Op2 X (binaryOp .FloorDiv) vDiv := ⟨_, op_fdivN, im2_int fun _ _ _ _ _ => rv_int⟩
def vMod : M2 := vInt2 fun i j => if j ≠ 0 then some (.int (i.fmod j)) else none
theorem op2_mod : Op2 X (binaryOp .Mod) vMod := ⟨_, op_modN, im2_int fun _ _ _ _ _ => rv_int⟩
def vPow : M2 := vInt2 fun i j => if CPow i j then some (.int (i ^ j.toNat)) else none
theorem op2_pow : Op2 X (binaryOp .Pow) vPow := ⟨_, op_pow, im2_int fun _ _ _ _ _ => rv_int⟩
/-- a text, times -/
def repS (x : Str) (n : Nat) : Str := ⟨(List.replicate n x.cps.toList).flatten.toArray⟩
def rMulS : R2 := fun x y H Q => ∃ z n, x = .str z ∧ y = .int n ∧ 2 ≤ n ∧ n < 2 ^ 62 ∧ 1 ≤ z.length ∧ z.length * n.toNat ≤ sizeLine ∧ Q (.str (repS z n.toNat)) H
theorem fold_repS (c : Array Nat) : ∀ (k : Nat) (acc : Array Nat), (List.replicate k c).foldl (· ++ ·) acc = acc ++ (List.replicate k c.toList).flatten.toArray
  | 0, acc => by simp
  | k + 1, acc => by
    rw [List.replicate_succ, List.foldl_cons, fold_repS c k, List.replicate_succ, List.flatten_cons]
    apply Array.toList_inj.mp
    simp
theorem op_mulS : OpR X (binaryOp .Mult) rMulS := by
  intro pins s σ H x y v u Q I rx ry h
  obtain ⟨z, n, rfl, rfl, h2, h62, h1, hz, q⟩ := h
  obtain ⟨t, rfl⟩ := rx
  obtain ⟨t', rfl⟩ := ry
  have hsl := sizeLine_eq
  refine PySem.P.mul_str ?_ ?_ ?_ ?_
  · have e1 : ¬ n < -(2 ^ 63 : Int) := by omega
    have e2 : ¬ n ≥ 2 ^ 63 := by omega
    rw [decide_eq_false e1, decide_eq_false e2]
    rfl
  · intro _ _
    have : (z.length : Int) * n ≤ 2 ^ 63 - 1 := by
      have e : n = (n.toNat : Int) := by omega
      rw [e, ← Int.natCast_mul]
      omega
    have e2 : (z.length : Int) ≤ (2 ^ 63 - 1) / n := by
      rw [Int.le_ediv_iff_mul_le (by omega)]
      exact this
    omega
  · intro _ _
    first | exact decide_eq_false (by omega) | (simp [Builtin.tooLong]; omega)
  · rw [if_neg (by omega), if_neg (by simp; omega)]
    refine ⟨?_, .str _, H, I.tok _, ⟨_, rfl⟩, ?_⟩
    · show ((List.replicate n.toNat z.cps).foldl (· ++ ·) #[]).size ≤ sizeLine
      rw [fold_repS]
      have : (List.replicate n.toNat z.cps.toList).flatten.length = n.toNat * z.cps.size := by
        rw [List.length_flatten]
        simp
      rw [Array.size_append]
      simp only [List.size_toArray]
      rw [this]
      have e3 : z.length = z.cps.size := rfl
      rw [e3, Nat.mul_comm] at hz
      simpa using hz
    · have e : (List.replicate n.toNat z.cps).foldl (· ++ ·) #[] = (List.replicate n.toNat z.cps.toList).flatten.toArray := by
        rw [fold_repS]
        simp
      rw [e]
      exact q
def vMul : M2 := fun a b S => match a, b with
  | .int i, .int j => if CMul i j then some (.int (i * j), S) else none
  | .str z, .int n => if 2 ≤ n ∧ n < 2 ^ 62 ∧ 1 ≤ z.length ∧ z.length * n.toNat ≤ sizeLine then some (.str (repS z n.toNat), S) else none
  | .fro l, .int n => if -(2 ^ 63) ≤ n ∧ n < 2 ^ 63 ∧ l.length * n.toNat ≤ sizeLine then some (.fro (List.replicate n.toNat l).flatten, S) else none
  | .tup l, .int n => if l ≠ [] ∧ 2 ≤ n ∧ n ≤ 1000 ∧ l.length ≤ 1000 then some (.tup (List.replicate n.toNat l).flatten, S) else none
  | _, _ => none
theorem RVs.rep {K : Frg} {F φ : List Addr} {H : Hp} {l : List Val} {xs : List V} (r : RVs K F φ H l xs) : ∀ n : Nat, RVs K F φ H (List.replicate n l).flatten (List.replicate n xs).flatten
  | 0 => by simpa using RVs.nil
  | n + 1 => by
    rw [List.replicate_succ, List.replicate_succ, List.flatten_cons, List.flatten_cons]
    exact r.append (RVs.rep r n)
theorem op2_mul : Op2 X (binaryOp .Mult) vMul := by
  refine ⟨_, (op_mul.or (op_mulS.or (op_rep.or op_repT))), fun F φ S H a b x y d S' R ra rb e Q q => ?_⟩
  unfold vMul at e
  split at e
  · rename_i i j
    split at e
    · rename_i hz
      cases e
      exact .inl ⟨i, j, ra.int, rb.int, hz, q.now R rv_int⟩
    · cases e
  · rename_i z n
    split at e
    · rename_i hz
      cases e
      exact .inr (.inl ⟨z, n, ra.str, rb.int, hz.1, hz.2.1, hz.2.2.1, hz.2.2.2, q.now R rv_str⟩)
    · cases e
  · rename_i l n
    split at e
    · rename_i hz
      cases e
      unfold RV at ra
      obtain ⟨p1, xs, h1, _, _, h2, h3⟩ := ra
      exact .inr (.inr (.inl ⟨p1, n, xs, h1, rb.int, h2, hz.1, hz.2.1, by rw [h3.length]; exact hz.2.2, fun p hp => q.fro R (h3.rep _) hp⟩))
    · cases e
  · rename_i l n
    split at e
    · rename_i hz
      cases e
      unfold RV at ra
      obtain ⟨p1, xs, h1, h2, h3⟩ := ra
      refine .inr (.inr (.inr ⟨p1, n, xs, h1, rb.int, h2, fun z => ?_, hz.2.1, hz.2.2.1, by rw [h3.length]; exact hz.2.2.2, fun p hp => q.tup R (h3.rep _) hp⟩))
      subst z
      have := h3.length
      cases l with
      | nil => exact hz.1 rfl
      | cons _ _ => simp at this
    · cases e
  · cases e
/-! ### comparisons -/
def vCmp (g : Int → Int → Bool) (h : List Nat → List Nat → Bool) : M2 := fun a b S => match a, b with
  | .int i, .int j => some (.bl (g i j), S)
  | .str x, .str y => some (.bl (h x.cps.toList y.cps.toList), S)
  | _, _ => none
theorem op2_cmp {op : CmpOp} {g : Int → Int → Bool} {h : List Nat → List Nat → Bool} (o1 : OpR X (compareOp op) (rI0 fun i j => .bl (g i j))) (o2 : OpR X (compareOp op) (fun x y H Q => ∃ i j, x = .str i ∧ y = .str j ∧ Q (.bl (h i.cps.toList j.cps.toList)) H)) :
    Op2 X (compareOp op) (vCmp g h) := by
  refine ⟨_, o1.or o2, fun F φ S H a b x y d S' R ra rb e Q q => ?_⟩
  unfold vCmp at e
  split at e
  · rename_i i j
    cases e
    exact .inl ⟨i, j, ra.int, rb.int, q.now R rv_bl⟩
  · rename_i i j
    cases e
    exact .inr ⟨i, j, ra.str, rb.str, q.now R rv_bl⟩
  · cases e
def vLt : M2 := vCmp (fun i j => decide (i < j)) fun x y => decide (x < y)
def vLe : M2 := vCmp (fun i j => decide (i ≤ j)) fun x y => !decide (y < x)
def vGt : M2 := vCmp (fun i j => decide (j < i)) fun x y => decide (y < x)
def vGe : M2 := vCmp (fun i j => decide (j ≤ i)) fun x y => !decide (x < y)
theorem op2_lt : Op2 X (compareOp .Lt) vLt := op2_cmp op_lt op_lt_str
theorem op2_le : Op2 X (compareOp .LtE) vLe := op2_cmp op_le op_le_str
theorem op2_gt : Op2 X (compareOp .Gt) vGt := op2_cmp op_gt op_gt_str
theorem op2_ge : Op2 X (compareOp .GtE) vGe := op2_cmp op_ge op_ge_str
/-- scalars as they are, other data by what they hold -/
def scalD : Val → Bool
  | .non => true
  | .bl _ => true
  | .int _ => true
  | .str _ => true
  | _ => false
def vEqN (neg : Bool) : M2 := fun a b S => match a, b with
  | .str x, .str y => some (.bl (if neg then !decide (x = y) else decide (x = y)), S)
  | .int x, .int y => some (.bl (if neg then !decide (x = y) else decide (x = y)), S)
  | a, b => (pyOf S a).bind fun p => (pyOf S b).bind fun q => if (SeqAt.shaped p && SeqAt.shaped q) = true then some (.bl (if neg then !PyData.eqv p q else PyData.eqv p q), S) else none
theorem op_eqN (hu : X.A.units + 64 < cLine) : ∀ neg : Bool, OpR X (compareOp (if neg then .NotEq else .Eq)) (fun x y H Q => (scal x y = true ∧ Q (.bl (if neg then !decide (x = y) else decide (x = y))) H) ∨
    ∃ d e, Dp X.K H x d ∧ Dp X.K H y e ∧ SeqAt.shaped d = true ∧ SeqAt.shaped e = true ∧ Q (.bl (if neg then !PyData.eqv d e else PyData.eqv d e)) H)
  | true => op_ne.or (op_neD hu)
  | false => op_eq.or (op_eqD hu)
theorem op2_eqN (hu : X.A.units + 64 < cLine) (neg : Bool) : Op2 X (compareOp (if neg then .NotEq else .Eq)) (vEqN neg) := by
  refine ⟨_, op_eqN hu neg, fun F φ S H a b x y d S' R ra rb e Q q => ?_⟩
  unfold vEqN at e
  split at e
  · rename_i u v
    cases e
    rw [ra.str, rb.str]
    refine .inl ⟨rfl, ?_⟩
    have e1 : decide (V.str u = V.str v) = decide (u = v) := by
      by_cases h : u = v
      · subst h; simp
      · rw [decide_eq_false h, decide_eq_false (fun z => h (V.str.inj z))]
    rw [e1]
    exact q.now R rv_bl
  · rename_i u v
    cases e
    rw [ra.int, rb.int]
    refine .inl ⟨rfl, ?_⟩
    have e1 : decide (V.int u = V.int v) = decide (u = v) := by
      by_cases h : u = v
      · subst h; simp
      · rw [decide_eq_false h, decide_eq_false (fun z => h (V.int.inj z))]
    rw [e1]
    exact q.now R rv_bl
  · cases e1 : pyOf S a with
    | none => rw [e1] at e; cases e
    | some p1 =>
      cases e2 : pyOf S b with
      | none => rw [e1, e2] at e; cases e
      | some p2 =>
        rw [e1, e2] at e
        simp only [Option.bind_some] at e
        split at e
        · rename_i hz
          cases e
          rw [Bool.and_eq_true] at hz
          exact .inr ⟨p1, p2, dp_ofS R e1 ra, dp_ofS R e2 rb, hz.1, hz.2, q.now R rv_bl⟩
        · cases e
abbrev vEq : M2 := vEqN false
abbrev vNe : M2 := vEqN true
theorem op2_eq (hu : X.A.units + 64 < cLine) : Op2 X (compareOp .Eq) vEq := op2_eqN hu false
theorem op2_ne (hu : X.A.units + 64 < cLine) : Op2 X (compareOp .NotEq) vNe := op2_eqN hu true
/-- in -/
def flatD : Val → Bool
  | .non => true
  | .bl _ => true
  | .int _ => true
  | .str _ => true
  | _ => false
def flatTo : Val → V
  | .bl b => .bl b
  | .int i => .int i
  | .str x => .str x
  | _ => .non
theorem flat_rv {K : Frg} {F φ : List Addr} {H : Hp} {d : Val} {v : V} (h : flatD d = true) (r : RV K F φ H d v) : v = flatTo d ∧ flatV v = true := by
  cases d with
  | non => exact ⟨r.non, by rw [r.non]; rfl⟩
  | bl b => exact ⟨r.bl, by rw [r.bl]; rfl⟩
  | int b => exact ⟨r.int, by rw [r.int]; rfl⟩
  | str b => exact ⟨r.str, by rw [r.str]; rfl⟩
  | _ => cases h
theorem flat_rvs {K : Frg} {F φ : List Addr} {H : Hp} : ∀ {ds : List Val} {vs : List V}, ds.all flatD = true → RVs K F φ H ds vs → vs = ds.map flatTo ∧ vs.all flatV = true
  | [], vs, _, r => by rw [r.inv0]; exact ⟨rfl, rfl⟩
  | d :: ds, vs, h, r => by
    obtain ⟨v, ws, h1, h2, h3⟩ := r.inv
    rw [List.all_cons, Bool.and_eq_true] at h
    obtain ⟨e1, e2⟩ := flat_rv h.1 h2
    obtain ⟨e3, e4⟩ := flat_rvs h.2 h3
    subst h1
    exact ⟨by rw [List.map_cons, ← e1, ← e3], by rw [List.all_cons, e2, e4]; rfl⟩
def inD (a : Val) (l : List Val) : Bool := inV (flatTo a) (l.map flatTo)
def vIn (neg : Bool) : M2 := fun a b S => match a, b with
  | .str x, .str z => match x.cps.toList with
    | [c] => some (.bl (if neg then !decide (c ∈ z.cps.toList) else decide (c ∈ z.cps.toList)), S)
    | _ => none
  | a, .tup l => if (flatD a && l.all flatD) = true then some (.bl (if neg then !inD a l else inD a l), S) else none
  | a, b => (lstOf S b).bind fun l => if (flatD a && l.all flatD) = true then some (.bl (if neg then !inD a l else inD a l), S) else none
theorem op_inN : ∀ neg : Bool, OpR X (compareOp (if neg then .NotIn else .In)) (fun x y H Q => (∃ (c : Nat) (z : Str), x = .str ⟨#[c]⟩ ∧ y = .str z ∧ Q (.bl (if neg then !decide (c ∈ z.cps.toList) else decide (c ∈ z.cps.toList))) H) ∨ rIn X.K neg x y H Q)
  | true => op_notIn_sign.or op_notIn_seq
  | false => op_in_sign.or op_in_seq
theorem op2_inN (neg : Bool) : Op2 X (compareOp (if neg then .NotIn else .In)) (vIn neg) := by
  refine ⟨_, op_inN neg, fun F φ S H a b x y d S' R ra rb e Q q => ?_⟩
  have core : ∀ l, ((∃ p xs, y = .ref p ∧ SqL X.K H p xs ∧ RVs X.K F φ H l xs) ∨ ∃ p xs, y = .ref p ∧ SqT X.K H p xs ∧ RVs X.K F φ H l xs) →
      (if (flatD a && l.all flatD) = true then some (Val.bl (if neg then !inD a l else inD a l), S) else none) = some (d, S') → rIn X.K neg x y H Q := fun l hl e => by
    split at e
    · rename_i hz
      rw [Bool.and_eq_true] at hz
      obtain ⟨e1, e2⟩ := flat_rv hz.1 ra
      injection e with e
      injection e with ed es
      subst es
      rcases hl with ⟨p, xs, h1, h2, h3⟩ | ⟨p, xs, h1, h2, h3⟩
      · obtain ⟨e3, e4⟩ := flat_rvs hz.2 h3
        refine ⟨p, xs, h1, .inl h2, e2, e4, ?_⟩
        rw [← ed] at q
        rw [e1, e3]
        exact q.now R rv_bl
      · obtain ⟨e3, e4⟩ := flat_rvs hz.2 h3
        refine ⟨p, xs, h1, .inr h2, e2, e4, ?_⟩
        rw [← ed] at q
        rw [e1, e3]
        exact q.now R rv_bl
    · cases e
  unfold vIn at e
  split at e
  · rename_i w z
    split at e
    · rename_i c hc
      cases e
      refine .inl ⟨c, z, ?_, rb.str, q.now R rv_bl⟩
      rw [ra.str]
      have : w = ⟨#[c]⟩ := Str.ext' (Array.toList_inj.mp (by rw [hc]))
      rw [this]
    · cases e
  · refine .inr (core _ (.inr ?_) e)
    unfold RV at rb
    exact rb
  · cases e1 : lstOf S b with
    | none => rw [e1] at e; cases e
    | some l =>
      rw [e1] at e
      exact .inr (core l (.inl (lst_of R e1 rb)) e)
theorem op2_in : Op2 X (compareOp .In) (vIn false) := op2_inN (X := X) false
theorem op2_notin : Op2 X (compareOp .NotIn) (vIn true) := op2_inN (X := X) true
/-- is None -/
def isNon : Val → Bool
  | .non => true
  | .raw w => decide (w = .non)
  | _ => false
theorem isNon_rv {K : Frg} {F φ : List Addr} {H : Hp} {d : Val} {v : V} (r : RV K F φ H d v) : isNon d = decide (v = .non) := by
  cases d with
  | non => rw [r.non]; rfl
  | bl b => rw [r.bl]; rfl
  | int b => rw [r.int]; rfl
  | str b => rw [r.str]; rfl
  | tup l => unfold RV at r; obtain ⟨a, xs, h, _⟩ := r; rw [h]; rfl
  | fro l => unfold RV at r; obtain ⟨a, xs, h, _⟩ := r; rw [h]; rfl
  | scr l => unfold RV at r; obtain ⟨a, xs, h, _⟩ := r; rw [h]; rfl
  | ref i => unfold RV at r; obtain ⟨a, h, _⟩ := r; rw [h]; rfl
  | obj C ks vs => unfold RV at r; obtain ⟨a, dx, gs, h, _⟩ := r; rw [h]; rfl
  | raw w => unfold RV at r; rw [r]; rfl
def vIs (neg : Bool) : M2 := fun a b S => match a, b with
  | .bl i, .bl j => some (.bl (if neg then !decide (i = j) else decide (i = j)), S)
  | a, .non => some (.bl (if neg then !isNon a else isNon a), S)
  | _, _ => none
theorem op_isN' : ∀ neg : Bool, OpR X (compareOp (if neg then .IsNot else .Is)) (fun x y H Q => (∃ a b : Bool, x = .bl a ∧ y = .bl b ∧ Q (.bl (if neg then !decide (a = b) else decide (a = b))) H) ∨ (y = .non ∧ Q (.bl (if neg then !decide (x = .non) else decide (x = .non))) H))
  | true => op_notBl.or op_notN
  | false => op_isBl.or op_isN
theorem op2_isN (neg : Bool) : Op2 X (compareOp (if neg then .IsNot else .Is)) (vIs neg) := by
  refine ⟨_, op_isN' neg, fun F φ S H a b x y d S' R ra rb e Q q => ?_⟩
  unfold vIs at e
  split at e
  · rename_i i j
    cases e
    exact .inl ⟨i, j, ra.bl, rb.bl, q.now R rv_bl⟩
  · cases e
    refine .inr ⟨rb.non, ?_⟩
    rw [← isNon_rv ra]
    exact q.now R rv_bl
  · cases e
theorem op2_is : Op2 X (compareOp .Is) (vIs false) := op2_isN (X := X) false
theorem op2_isnot : Op2 X (compareOp .IsNot) (vIs true) := op2_isN (X := X) true
/-! ### one -/
def vNeg : M1 := fun a S => match a with
  | .int i => some (.int (-i), S)
  | _ => none
theorem op1_neg : Op1 X (unaryOp .USub) vNeg := ⟨_, un_neg, fun F φ S H a x d S' R ra e Q q => by
  unfold vNeg at e
  split at e
  · rename_i i
    cases e
    exact ⟨i, ra.int, q.now R rv_int⟩
  · cases e⟩
end
end Fx
/-! Subscripts, slices, built-in calls, methods. -/
namespace Fx
open PySem PySem.Spec PyProof.Rows L2

/-- a new list: one that stays (false), one that may change (true) -/
def mk (c : Bool) (l : List Val) (S : Store) : Val × Store := if c = true then (.ref S.length, S ++ [.lst l]) else (.fro l, S)
@[simp] theorem mk_t (l : List Val) (S : Store) : mk true l S = (.ref S.length, S ++ [.lst l]) := rfl
@[simp] theorem mk_f (l : List Val) (S : Store) : mk false l S = (.fro l, S) := rfl
section
variable {K : Frg} {F φ : List Addr} {H : Hp} {S : Store}
theorem Aft.mk {c : Bool} {ds : List Val} {xs : List V} {Q : VK} (a : Aft K F φ H (mk c ds S).2 (mk c ds S).1 Q) (R : Rp K F φ S H) (r : RVs K F φ H ds xs) {p : Addr} (hp : H p = none) : Q (.ref p) (upd H p (.lst xs)) := by
  cases c with
  | true => exact Aft.lst a R r hp
  | false => exact Aft.fro a R r hp
theorem RVs.atI {l : List Val} {xs : List V} {i : Int} {d : Val} (r : RVs K F φ H l xs) (h : L2.atI l i = some d) : ∃ v, L2.atI xs i = some v ∧ RV K F φ H d v := by
  unfold L2.atI at h ⊢
  rw [r.length]
  cases q : ixN l.length i with
  | none => rw [q] at h; cases h
  | some j =>
    rw [q] at h
    exact r.get h
end

/-! ### a[b] -/
def vIx : M2 := fun a b S => match b with
  | .int i => match a with
    | .str z => if z.length ≤ sizeLine then (L2.atI z.cps.toList i).map fun c => (.str ⟨#[c]⟩, S) else none
    | .tup l => (L2.atI l i).map fun d => (d, S)
    | a => (lstOf S a).bind fun l => (L2.atI l i).map fun d => (d, S)
  | _ => none
section
variable {X : Cx} {a b : Expr} {ma mb : ME} {pos : Pos}
theorem im2_ix {K : Frg} : Im2 K (rIx K) vIx := fun F φ S H a b x y d S' R ra rb e Q q => by
  unfold vIx at e
  split at e
  · rename_i i
    split at e
    · rename_i z
      split at e
      · rename_i hz
        cases e1 : L2.atI z.cps.toList i with
        | none => rw [e1] at e; cases e
        | some c =>
          rw [e1] at e
          cases e
          exact .inr (.inr ⟨z, i, c, ra.str, rb.int, hz, e1, q.now R rv_str⟩)
      · cases e
    · rename_i l
      cases e1 : L2.atI l i with
      | none => rw [e1] at e; cases e
      | some c =>
        rw [e1] at e
        cases e
        unfold RV at ra
        obtain ⟨p, xs, h1, h2, h3⟩ := ra
        obtain ⟨v, h4, h5⟩ := h3.atI e1
        exact .inr (.inl ⟨p, xs, i, v, h1, rb.int, h2, h4, q.now R h5⟩)
    · cases e0 : lstOf S a with
      | none => rw [e0] at e; cases e
      | some l =>
        rw [e0] at e
        simp only [Option.bind_some] at e
        cases e1 : L2.atI l i with
        | none => rw [e1] at e; cases e
        | some c =>
          rw [e1] at e
          cases e
          obtain ⟨p, xs, h1, h2, h3⟩ := lst_of R e0 ra
          obtain ⟨v, h4, h5⟩ := h3.atI e1
          exact .inl ⟨p, xs, i, v, h1, rb.int, h2, h4, q.now R h5⟩
  · cases e
theorem ei_ix (ha : EI X a ma) (hb : EI X b mb) (hs : PlainIx b := by exact fun _ _ => rfl) : EI X (.Subscript a b pos) (mBin vIx ma mb) := by
  obtain ⟨ta, pa, ia⟩ := ha
  obtain ⟨tb, pb, ib⟩ := hb
  exact ⟨_, pe_ix ix_seq pa pb hs, im_bin ia ib im2_ix⟩
end

/-! ### slices -/
abbrev MO := MM (Option Int)
def ImO (K : Frg) (t : TO) (m : MO) : Prop := ∀ F φ S H σ env o S', Rp K F φ S H → RE K F φ H env σ → m env S = some (o, S') → ∀ Q : Option Int → Hp → Prop, (∀ φ' H', Ext φ H φ' H' → Rp K F φ' S' H' → Q o H') → t σ H Q
def OI (X : Cx) (e : Option Expr) (m : MO) : Prop := ∃ t, PO X e t ∧ ImO X.K t m
def mNo : MO := fun _ S => some (none, S)
def mPart (m : ME) : MO := fun env S => bnd (m env S) fun d S1 => match d with
  | .int i => some (some i, S1)
  | _ => none
abbrev MSl := Val → Option Int → Option Int → Store → Option (Val × Store)
def cutD (l : List Val) (lo hi : Option Int) : List Val := (l.drop (HT.sIx l.length 0 lo)).take (HT.sIx l.length l.length hi - HT.sIx l.length 0 lo)
def vSl (c : Bool) : MSl := fun a lo hi S => match a with
  | .str z => if z.length ≤ sizeLine then some (.str (cutS z lo hi), S) else none
  | .tup l => some (.tup (cutD l lo hi), S)
  | a => (lstOf S a).map fun l => mk c (cutD l lo hi) S
def mSl (f : MSl) (m : ME) (ml mh : MO) : ME := fun env S => bnd (m env S) fun d S1 => bnd (ml env S1) fun lo S2 => bnd (mh env S2) fun hi S3 => f d lo hi S3
def mRev (c : Bool) (m : ME) : ME := fun env S => bnd (m env S) fun d S1 => (lstOf S1 d).map fun l => mk c l.reverse S1
theorem cutD_cutV {l : List Val} {xs : List V} {K : Frg} {F φ : List Addr} {H : Hp} (r : RVs K F φ H l xs) (lo hi : Option Int) : RVs K F φ H (cutD l lo hi) (cutV xs lo hi) := by
  unfold cutD cutV
  rw [r.length]
  exact (r.drop _).take _
section
variable {X : Cx} {e : Expr} {lo hi : Option Expr} {m : ME} {ml mh : MO} {p2 pos : Pos}
theorem oi_none : OI X none mNo := ⟨_, po_none, fun F φ S H σ env o S' R E h Q a => by
  cases h
  exact a φ H Ext.refl R⟩
theorem oi_some (h : EI X e m) : OI X (some e) (mPart m) := by
  obtain ⟨t, p, i⟩ := h
  refine ⟨_, po_some p, fun F φ S H σ env o S' R E h Q a => ?_⟩
  obtain ⟨d, S1, h1, h⟩ := bnd_some h
  refine i F φ S H σ env d S1 R E h1 _ fun φ1 H1 v e1 R1 r1 => ?_
  cases d with
  | int j =>
    cases h
    exact ⟨j, r1.int, a φ1 H1 e1 R1⟩
  | _ => cases h
theorem ei_sl (c : Bool) (h : EI X e m) (hl : OI X lo ml) (hh : OI X hi mh) : EI X (.Subscript e (.Slice lo hi none p2) pos) (mSl (vSl c) m ml mh) := by
  obtain ⟨t, p, i⟩ := h
  obtain ⟨tl, pl, il⟩ := hl
  obtain ⟨th, ph, ih⟩ := hh
  refine ⟨_, pe_slice (sl_list.or (sl_tupA.or sl_str)) p pl ph, fun F φ S H σ env d S' R E h Q a => ?_⟩
  obtain ⟨d0, S1, h1, h⟩ := bnd_some h
  obtain ⟨o1, S2, h2, h⟩ := bnd_some h
  obtain ⟨o2, S3, h3, h⟩ := bnd_some h
  refine i F φ S H σ env d0 S1 R E h1 _ fun φ1 H1 v e1 R1 r1 => ?_
  refine il F φ1 S1 H1 σ env o1 S2 R1 (E.mono e1) h2 _ fun φ2 H2 e2 R2 => ?_
  refine ih F φ2 S2 H2 σ env o2 S3 R2 (E.mono (e1.trans e2)) h3 _ fun φ3 H3 e3 R3 => ?_
  have r3 := RV.mono (e2.trans e3) _ _ r1
  have a3 := a.mono (e1.trans (e2.trans e3))
  clear h1 h2 h3
  unfold vSl at h
  split at h
  · rename_i z _ _
    split at h
    · rename_i hz
      cases h
      exact .inr (.inr ⟨z, r3.str, hz, a3.now R3 rv_str⟩)
    · cases h
  · rename_i l _ _
    cases h
    have r4 := r3
    unfold RV at r4
    obtain ⟨q, xs, g1, g2, g3⟩ := r4
    refine .inr (.inl ⟨q, xs, g1, g2, fun hw => ?_, fun _ p hp => a3.tup R3 (cutD_cutV g3 _ _) hp⟩)
    have el : cutD l o1 o2 = l := by
      unfold cutD
      rw [← g3.length, hw.1, hw.2, List.drop_zero, Nat.sub_zero, g3.length, List.take_length]
    rw [el] at a3
    rw [← g1]
    exact a3.now R3 r3
  · cases e0 : lstOf S3 d0 with
    | none => rw [e0] at h; cases h
    | some l =>
      rw [e0] at h
      have h' : mk c (cutD l o1 o2) S3 = (d, S') := Option.some.inj h
      obtain ⟨q, xs, g1, g2, g3⟩ := lst_of R3 e0 r3
      refine .inl ⟨q, xs, g1, g2, fun p hp => Aft.mk (c := c) (ds := cutD l o1 o2) (S := S3) ?_ R3 (cutD_cutV g3 _ _) hp⟩
      rw [h']
      exact a3
theorem ei_rev (c : Bool) {k : Nat} {p1 p3 p4 : Pos} (h : EI X e m) : EI X (.Subscript e (.Slice none none (some (.UnaryOp .USub (.Constant (.int 1) k p1) p3)) p4) pos) (mRev c m) := by
  obtain ⟨t, p, i⟩ := h
  refine ⟨_, pe_revL p, fun F φ S H σ env d S' R E h Q a => ?_⟩
  obtain ⟨d0, S1, h1, h⟩ := bnd_some h
  refine i F φ S H σ env d0 S1 R E h1 _ fun φ1 H1 v e1 R1 r1 => ?_
  cases e0 : lstOf S1 d0 with
  | none => rw [e0] at h; cases h
  | some l =>
    rw [e0] at h
    have h' : mk c l.reverse S1 = (d, S') := Option.some.inj h
    obtain ⟨q, xs, g1, g2, g3⟩ := lst_of R1 e0 r1
    refine ⟨q, xs, g1, g2, fun p hp => Aft.mk (c := c) (ds := l.reverse) (S := S1) ?_ R1 g3.reverse hp⟩
    rw [h']
    exact a.mono e1
end

/-! ### lists of one kind -/
def blsOf : List Val → Option (List Bool)
  | [] => some []
  | .bl b :: ds => (blsOf ds).map fun r => b :: r
  | _ :: _ => none
def intsOf : List Val → Option (List Int)
  | [] => some []
  | .int b :: ds => (intsOf ds).map fun r => b :: r
  | _ :: _ => none
def strsOf : List Val → Option (List Str)
  | [] => some []
  | .str b :: ds => (strsOf ds).map fun r => b :: r
  | _ :: _ => none
section
variable {K : Frg} {F φ : List Addr} {H : Hp}
theorem bls_of : ∀ {ds : List Val} {vs : List V} {bs : List Bool}, blsOf ds = some bs → RVs K F φ H ds vs → vs = bs.map V.bl
  | [], vs, bs, e, r => by
    unfold blsOf at e
    cases e
    exact r.inv0
  | d :: ds, vs, bs, e, r => by
    obtain ⟨v, ws, h1, h2, h3⟩ := r.inv
    cases d with
    | bl b =>
      unfold blsOf at e
      cases q : blsOf ds with
      | none => rw [q] at e; cases e
      | some r' =>
        rw [q] at e
        cases e
        rw [h1, h2.bl, bls_of q h3]
        rfl
    | _ => unfold blsOf at e; cases e
theorem ints_of : ∀ {ds : List Val} {vs : List V} {bs : List Int}, intsOf ds = some bs → RVs K F φ H ds vs → vs = bs.map V.int
  | [], vs, bs, e, r => by
    unfold intsOf at e
    cases e
    exact r.inv0
  | d :: ds, vs, bs, e, r => by
    obtain ⟨v, ws, h1, h2, h3⟩ := r.inv
    cases d with
    | int b =>
      unfold intsOf at e
      cases q : intsOf ds with
      | none => rw [q] at e; cases e
      | some r' =>
        rw [q] at e
        cases e
        rw [h1, h2.int, ints_of q h3]
        rfl
    | _ => unfold intsOf at e; cases e
theorem strs_of : ∀ {ds : List Val} {vs : List V} {bs : List Str}, strsOf ds = some bs → RVs K F φ H ds vs → vs = bs.map V.str
  | [], vs, bs, e, r => by
    unfold strsOf at e
    cases e
    exact r.inv0
  | d :: ds, vs, bs, e, r => by
    obtain ⟨v, ws, h1, h2, h3⟩ := r.inv
    cases d with
    | str b =>
      unfold strsOf at e
      cases q : strsOf ds with
      | none => rw [q] at e; cases e
      | some r' =>
        rw [q] at e
        cases e
        rw [h1, h2.str, strs_of q h3]
        rfl
    | _ => unfold strsOf at e; cases e
end
@[simp] theorem blsOf_map (bs : List Bool) : blsOf (bs.map Val.bl) = some bs := by
  induction bs with
  | nil => rfl
  | cons b bs ih => rw [List.map_cons]; unfold blsOf; rw [ih]; rfl
@[simp] theorem intsOf_map (bs : List Int) : intsOf (bs.map Val.int) = some bs := by
  induction bs with
  | nil => rfl
  | cons b bs ih => rw [List.map_cons]; unfold intsOf; rw [ih]; rfl
@[simp] theorem strsOf_map (bs : List Str) : strsOf (bs.map Val.str) = some bs := by
  induction bs with
  | nil => rfl
  | cons b bs ih => rw [List.map_cons]; unfold strsOf; rw [ih]; rfl

/-! ### built-in calls -/
section
variable {X : Cx} {x : Str} {p pos : Pos} {e : Expr} {es : List Expr} {ms : MA} {id T : String} {f : MCall}
theorem im_cb {K : Frg} {r : List V → Hp → VK → Prop} {t : TA} (ht : ImA K t ms) (hf : ImC K r f) : Im K (tCB r t) (mCall f ms) := fun F φ S H σ env d S' R E h Q a => by
  obtain ⟨ds, S1, h1, h⟩ := bnd_some h
  refine ht F φ S H σ env ds S1 R E h1 _ fun φ1 H1 vs e1 R1 r1 => ?_
  exact hf F φ1 S1 H1 ds vs d S' R1 r1 h Q (a.mono e1)
theorem ei_callB (hc : OpC X (.builtin id) f) (hg : Gl X x) (hm : X.mg x = none) (hv : bootBuiltins x = some (.builtin id)) (ha : AI X (e :: es) ms) (hn : x ≠ "__name__" := by decide) (hdb : (x == ("__debug__" : Str)) = false := by decide)
    (he : starEach (e :: es) X.env = (false, eval e X.env) :: starEach es X.env := by rfl) (hpl : (backTo pos (starEach es X.env)).any (·.1) = false := by rfl) : EI X (.Call (.Name x p) (e :: es) [] pos) (mCall f ms) := by
  obtain ⟨r, o, i⟩ := hc
  obtain ⟨t, pa, ia⟩ := ha
  exact ⟨_, pe_callB o hg hm hv pa hn hdb he hpl, im_cb ia i⟩
theorem ei_callT (hc : OpC X (.type T) f) (hg : Gl X x) (hm : X.mg x = none) (hv : bootBuiltins x = some (.type T)) (ha : AI X (e :: es) ms) (hn : x ≠ "__name__" := by decide) (hdb : (x == ("__debug__" : Str)) = false := by decide)
    (he : starEach (e :: es) X.env = (false, eval e X.env) :: starEach es X.env := by rfl) (hpl : (backTo pos (starEach es X.env)).any (·.1) = false := by rfl) : EI X (.Call (.Name x p) (e :: es) [] pos) (mCall f ms) := by
  obtain ⟨r, o, i⟩ := hc
  obtain ⟨t, pa, ia⟩ := ha
  exact ⟨_, pe_callTy o hg hm hv pa hn hdb he hpl, im_cb ia i⟩
def vLen : MCall := fun as S => match as with
  | [.str z] => if z.length ≤ sizeLine then some (.int z.length, S) else none
  | [.tup l] => some (.int l.length, S)
  | [a] => (lstOf S a).map fun l => (.int l.length, S)
  | _ => none
theorem opc_len : OpC X (.builtin "len") vLen := by
  refine ⟨_, call_len_seq.or call_len_str, fun F φ S H as xs d S' R r e Q q => ?_⟩
  unfold vLen at e
  split at e
  · rename_i z
    obtain ⟨v, ws, h1, h2, h3⟩ := r.inv
    split at e
    · rename_i hz
      cases e
      exact .inr ⟨z, by rw [h1, h3.inv0, h2.str], hz, q.now R rv_int⟩
    · cases e
  · rename_i l
    obtain ⟨v, ws, h1, h2, h3⟩ := r.inv
    cases e
    unfold RV at h2
    obtain ⟨a, ys, g1, g2, g3⟩ := h2
    refine .inl ⟨a, ys, by rw [h1, h3.inv0, g1], .inr g2, ?_⟩
    rw [g3.length]
    exact q.now R rv_int
  · rename_i a _ _
    obtain ⟨v, ws, h1, h2, h3⟩ := r.inv
    cases e0 : lstOf S a with
    | none => rw [e0] at e; cases e
    | some l =>
      rw [e0] at e
      cases e
      obtain ⟨b, ys, g1, g2, g3⟩ := lst_of R e0 h2
      refine .inl ⟨b, ys, by rw [h1, h3.inv0, g1], .inl g2, ?_⟩
      rw [g3.length]
      exact q.now R rv_int
  · cases e
def vAbs : MCall := fun as S => match as with
  | [.int i] => some (.int (if i < 0 then -i else i), S)
  | _ => none
theorem opc_abs : OpC X (.builtin "abs") vAbs := ⟨_, call_abs, fun F φ S H as xs d S' R r e Q q => by
  unfold vAbs at e
  split at e
  · rename_i i
    obtain ⟨v, ws, h1, h2, h3⟩ := r.inv
    cases e
    exact ⟨i, by rw [h1, h3.inv0, h2.int], q.now R rv_int⟩
  · cases e⟩
def vInt : MCall := fun as S => match as with
  | [.int i] => some (.int i, S)
  | [.bl k] => some (.int (if k then 1 else 0), S)
  | [.str a] => match PySem.intText? a with
    | some n => if a.length ≤ 640 then some (.int n, S) else none
    | none => none
  | _ => none
theorem opc_int : OpC X (.type "int") vInt := ⟨_, call_int1.or call_int_str, fun F φ S H as xs d S' R r e Q q => by
  unfold vInt at e
  split at e
  · rename_i i
    obtain ⟨v, ws, h1, h2, h3⟩ := r.inv
    cases e
    exact .inl (.inl ⟨i, by rw [h1, h3.inv0, h2.int], q.now R rv_int⟩)
  · rename_i i
    obtain ⟨v, ws, h1, h2, h3⟩ := r.inv
    cases e
    exact .inl (.inr ⟨i, by rw [h1, h3.inv0, h2.bl], q.now R rv_int⟩)
  · rename_i i
    obtain ⟨v, ws, h1, h2, h3⟩ := r.inv
    split at e
    · rename_i n hn
      split at e
      · rename_i hz
        cases e
        exact .inr ⟨i, n, by rw [h1, h3.inv0, h2.str], hn, hz, q.now R rv_int⟩
      · cases e
    · cases e
  · cases e⟩
def vTuple : MCall := fun as S => match as with
  | [.tup l] => some (.tup l, S)
  | [a] => (lstOf S a).map fun l => (.tup l, S)
  | _ => none
theorem opc_tuple : OpC X (.type "tuple") vTuple := ⟨_, call_tuple_of, fun F φ S H as xs d S' R r e Q q => by
  unfold vTuple at e
  split at e
  · rename_i l
    obtain ⟨v, ws, h1, h2, h3⟩ := r.inv
    cases e
    have h2' := h2
    unfold RV at h2
    obtain ⟨a, ys, g1, g2, g3⟩ := h2
    refine ⟨a, ys, by rw [h1, h3.inv0, g1], .inr ⟨g2, ?_⟩⟩
    rw [← g1]
    exact q.now R h2'
  · rename_i a _
    obtain ⟨v, ws, h1, h2, h3⟩ := r.inv
    cases e0 : lstOf S a with
    | none => rw [e0] at e; cases e
    | some l =>
      rw [e0] at e
      cases e
      obtain ⟨b, ys, g1, g2, g3⟩ := lst_of R e0 h2
      exact ⟨b, ys, by rw [h1, h3.inv0, g1], .inl ⟨g2, fun p hp => q.tup R g3 hp⟩⟩
  · cases e⟩
def vList (c : Bool) : MCall := fun as S => match as with
  | [.tup l] => some (mk c l S)
  | [a] => (lstOf S a).map fun l => mk c l S
  | _ => none
theorem opc_list (c : Bool) : OpC X (.type "list") (vList c) := ⟨_, call_list_of, fun F φ S H as xs d S' R r e Q q => by
  unfold vList at e
  split at e
  · rename_i l
    obtain ⟨v, ws, h1, h2, h3⟩ := r.inv
    unfold RV at h2
    obtain ⟨a, ys, g1, g2, g3⟩ := h2
    refine ⟨a, ys, by rw [h1, h3.inv0, g1], .inr g2, fun p hp => Aft.mk (c := c) (S := S) ?_ R g3 hp⟩
    rw [Option.some.inj e]
    exact q
  · rename_i a _
    obtain ⟨v, ws, h1, h2, h3⟩ := r.inv
    cases e0 : lstOf S a with
    | none => rw [e0] at e; cases e
    | some l =>
      rw [e0] at e
      obtain ⟨b, ys, g1, g2, g3⟩ := lst_of R e0 h2
      refine ⟨b, ys, by rw [h1, h3.inv0, g1], .inl g2, fun p hp => Aft.mk (c := c) (S := S) ?_ R g3 hp⟩
      rw [show mk c l S = (d, S') from Option.some.inj e]
      exact q
  · cases e⟩
def vAll : MCall := fun as S => match as with
  | [a] => (lstOf S a).bind fun l => (blsOf l).map fun bs => (.bl (bs.all (fun b => b)), S)
  | _ => none
def vAny : MCall := fun as S => match as with
  | [a] => (lstOf S a).bind fun l => (blsOf l).map fun bs => (.bl (bs.any (fun b => b)), S)
  | _ => none
def vSum : MCall := fun as S => match as with
  | [a] => (lstOf S a).bind fun l => (intsOf l).map fun bs => (.int bs.sum, S)
  | _ => none
theorem opc_all (hc : X.calm = true) : OpC X (.builtin "all") vAll := ⟨_, cr_all hc, fun F φ S H as xs d S' R r e Q q => by
  unfold vAll at e
  split at e
  · rename_i a
    obtain ⟨v, ws, h1, h2, h3⟩ := r.inv
    cases e0 : lstOf S a with
    | none => rw [e0] at e; cases e
    | some l =>
      rw [e0] at e
      simp only [Option.bind_some] at e
      cases e1 : blsOf l with
      | none => rw [e1] at e; cases e
      | some bs =>
        rw [e1] at e
        cases e
        obtain ⟨b, ys, g1, g2, g3⟩ := lst_of R e0 h2
        exact ⟨b, bs, by rw [h1, h3.inv0, g1], by rw [← bls_of e1 g3]; exact g2, q.now R rv_bl⟩
  · cases e⟩
theorem opc_any (hc : X.calm = true) : OpC X (.builtin "any") vAny := ⟨_, cr_any hc, fun F φ S H as xs d S' R r e Q q => by
  unfold vAny at e
  split at e
  · rename_i a
    obtain ⟨v, ws, h1, h2, h3⟩ := r.inv
    cases e0 : lstOf S a with
    | none => rw [e0] at e; cases e
    | some l =>
      rw [e0] at e
      simp only [Option.bind_some] at e
      cases e1 : blsOf l with
      | none => rw [e1] at e; cases e
      | some bs =>
        rw [e1] at e
        cases e
        obtain ⟨b, ys, g1, g2, g3⟩ := lst_of R e0 h2
        exact ⟨b, bs, by rw [h1, h3.inv0, g1], by rw [← bls_of e1 g3]; exact g2, q.now R rv_bl⟩
  · cases e⟩
theorem opc_sum (hc : X.calm = true) : OpC X (.builtin "sum") vSum := ⟨_, cr_sum hc, fun F φ S H as xs d S' R r e Q q => by
  unfold vSum at e
  split at e
  · rename_i a
    obtain ⟨v, ws, h1, h2, h3⟩ := r.inv
    cases e0 : lstOf S a with
    | none => rw [e0] at e; cases e
    | some l =>
      rw [e0] at e
      simp only [Option.bind_some] at e
      cases e1 : intsOf l with
      | none => rw [e1] at e; cases e
      | some bs =>
        rw [e1] at e
        cases e
        obtain ⟨b, ys, g1, g2, g3⟩ := lst_of R e0 h2
        exact ⟨b, bs, by rw [h1, h3.inv0, g1], by rw [← ints_of e1 g3]; exact g2, q.now R rv_int⟩
  · cases e⟩
def vMax2 : MCall := fun as S => match as with
  | [.int i, .int j] => some (.int (if j > i then j else i), S)
  | _ => none
def vMin2 : MCall := fun as S => match as with
  | [.int i, .int j] => some (.int (if j < i then j else i), S)
  | _ => none
theorem opc_max2 (hc : X.calm = true) : OpC X (.builtin "max") vMax2 := ⟨_, call_max2 hc, fun F φ S H as xs d S' R r e Q q => by
  unfold vMax2 at e
  split at e
  · rename_i i j
    obtain ⟨v, ws, h1, h2, h3⟩ := r.inv
    obtain ⟨v', ws', h1', h2', h3'⟩ := h3.inv
    cases e
    exact ⟨i, j, by rw [h1, h1', h3'.inv0, h2.int, h2'.int], q.now R rv_int⟩
  · cases e⟩
theorem opc_min2 (hc : X.calm = true) : OpC X (.builtin "min") vMin2 := ⟨_, call_min2 hc, fun F φ S H as xs d S' R r e Q q => by
  unfold vMin2 at e
  split at e
  · rename_i i j
    obtain ⟨v, ws, h1, h2, h3⟩ := r.inv
    obtain ⟨v', ws', h1', h2', h3'⟩ := h3.inv
    cases e
    exact ⟨i, j, by rw [h1, h1', h3'.inv0, h2.int, h2'.int], q.now R rv_int⟩
  · cases e⟩
/-! ### repr -/
def rRepr (K : Frg) : List V → Hp → VK → Prop := fun xs H Q => ∃ x d, xs = [x] ∧ Dp K H x d ∧ d.showable = true ∧ d.hasDict = false ∧ d.depth ≤ 60 ∧ d.shown.length ≤ sizeLine ∧ Q (.str d.shown) H
theorem cr_repr (hg : X.A.guards = some []) (hu : X.A.units + 64 < cLine) : CallR X (.builtin "repr") (rRepr X.K) := by
  intro pins s σ H xs us Q I r h
  obtain ⟨x, d, rfl, hd, h1, h2, h3, h4, q⟩ := h
  obtain ⟨u, rfl, ru⟩ := vals1 r
  obtain ⟨as, rd⟩ := Dp.reads I d x u hd ru
  have fin : ∀ (h' : Heap) (t : Tok) (k : Nat), (∀ b o, s.heap.get? b = some o → h'.get? b = some o) → EP X pins σ Q (.str d.shown t) { s with heap := h', toks := k } := fun h' t k hk => ⟨.str d.shown, H, I.kept hk, ⟨t, rfl⟩, q⟩
  cases hd with
  | non =>
    cases ru
    simp only [PyData.shown] at fin
    exact PySem.P.repr_of_none (fin s.heap _ _ fun _ _ e => e)
  | bl b =>
    cases ru
    simp only [PyData.shown] at fin
    exact PySem.P.repr_of_bool (fin s.heap _ _ fun _ _ e => e)
  | int i =>
    obtain ⟨t, rfl⟩ := ru
    simp only [PyData.shown] at fin
    exact PySem.P.repr_of_int (by simpa [PyData.showable] using h1) (fin s.heap _ _ fun _ _ e => e)
  | str z =>
    obtain ⟨t, rfl⟩ := ru
    simp only [PyData.shown] at fin h4
    exact PySem.P.repr_of_str (fin s.heap _ _ fun _ _ e => e) h4
  | lst hs ha =>
    cases ru
    exact PySem.repr_of_reads' rd h1 (fun z => by rw [h2] at z; cases z) hg (by omega) (fun _ _ e => e) (fun h' u tk hk => fin h' u tk hk) h4
  | tup hs ha =>
    cases ru
    exact PySem.repr_of_reads' rd h1 (fun z => by rw [h2] at z; cases z) hg (by omega) (fun _ _ e => e) (fun h' u tk hk => fin h' u tk hk) h4
def reprOk (p : PyData) : Bool := p.showable && !p.hasDict && decide (p.depth ≤ 60) && decide (p.shown.length ≤ sizeLine)
def vRepr : MCall := fun as S => match as with
  | [a] => (pyOf S a).bind fun p => if reprOk p = true then some (.str p.shown, S) else none
  | _ => none
theorem opc_repr (hg : X.A.guards = some []) (hu : X.A.units + 64 < cLine) : OpC X (.builtin "repr") vRepr := ⟨_, cr_repr hg hu, fun F φ S H as xs d S' R r e Q q => by
  unfold vRepr at e
  split at e
  · rename_i a
    obtain ⟨v, ws, h1, h2, h3⟩ := r.inv
    cases e0 : pyOf S a with
    | none => rw [e0] at e; cases e
    | some p =>
      rw [e0] at e
      simp only [Option.bind_some] at e
      split at e
      · rename_i hz
        cases e
        unfold reprOk at hz
        simp only [Bool.and_eq_true, Bool.not_eq_true', decide_eq_true_eq] at hz
        obtain ⟨⟨⟨z1, z2⟩, z3⟩, z4⟩ := hz
        exact ⟨v, p, by rw [h1, h3.inv0], dp_ofS R e0 h2, z1, z2, z3, z4, q.now R rv_str⟩
      · cases e
  · cases e⟩
end

/-! ### methods -/
abbrev MMt := Val → List Val → Store → Option (Val × Store)
def ImM (K : Frg) (r : V → List V → Hp → VK → Prop) (f : MMt) : Prop := ∀ F φ S H a as x xs d S', Rp K F φ S H → RV K F φ H a x → RVs K F φ H as xs → f a as S = some (d, S') → ∀ Q : VK, Aft K F φ H S' d Q → r x xs H Q
def tyD (T : String) (S : Store) : Val → Bool
  | .str _ => T == "str"
  | a => (lstOf S a).isSome && T == "list"
def OpM (X : Cx) (id : String) (f : MMt) : Prop := ∃ r, MtR X id r ∧ ImM X.K r f
def mMeth (T : String) (f : MMt) (m : ME) (ms : MA) : ME := fun env S => bnd (m env S) fun a S1 => if tyD T S1 a = true then bnd (ms env S1) fun as S2 => f a as S2 else none
section
variable {X : Cx} {o e : Expr} {es : List Expr} {m : ME} {ms : MA} {name : Str} {apos cpos : Pos} {T id : String} {f : MMt}
theorem ty_of {K : Frg} {F φ : List Addr} {S : Store} {H : Hp} {a : Val} {x : V} (R : Rp K F φ S H) (r : RV K F φ H a x) (h : tyD T S a = true) : tyV K T x H := by
  unfold tyD at h
  split at h
  · rw [r.str]
    exact beq_iff_eq.mp h
  · rw [Bool.and_eq_true] at h
    cases q : lstOf S a with
    | none => rw [q] at h; exact absurd h.1 (by simp)
    | some l =>
      obtain ⟨p, xs, h1, h2, _⟩ := lst_of R q r
      subst h1
      exact .inl ⟨beq_iff_eq.mp h.2, xs, h2⟩
theorem ei_bm0 (pa : PlainAttrs T) (slot : Slot T name id) (hty : typeOf (.builtin id) = pure (.type "method_descriptor")) (hm : OpM X id f) (ho : EI X o m)
    (hbase : attributeBase o name X.env (eval o X.env) = eval o X.env := by rfl) (hline : (apos.endLine == cpos.line) = true := by rfl) : EI X (.Call (.Attribute o name apos) [] [] cpos) (mMeth T f m mNil) := by
  obtain ⟨r, mo, i⟩ := hm
  obtain ⟨t, p, j⟩ := ho
  refine ⟨_, pe_bm0 pa slot hty mo p hbase hline, fun F φ S H σ env d S' R E h Q a => ?_⟩
  obtain ⟨d0, S1, h1, h⟩ := bnd_some h
  split at h
  · rename_i ht
    refine j F φ S H σ env d0 S1 R E h1 _ fun φ1 H1 v e1 R1 r1 => ?_
    exact ⟨ty_of R1 r1 ht, i F φ1 S1 H1 d0 [] v [] d S' R1 r1 .nil h Q (a.mono e1)⟩
  · cases h
theorem ei_bm (pa : PlainAttrs T) (slot : Slot T name id) (hty : typeOf (.builtin id) = pure (.type "method_descriptor")) (hm : OpM X id f) (ho : EI X o m) (ha : AI X (e :: es) ms)
    (hbase : attributeBase o name X.env (eval o X.env) = eval o X.env := by rfl)
    (hfew : ((backTo cpos (starEach (e :: es) X.env)).all (fun x => !x.1) && (backToKw cpos (keywordEach [] X.env)).all (fun x => x.1.isSome)
      && decide ((e :: es).length + ([] : List Keyword).length + (if ([] : List Keyword).isEmpty then 0 else 1) < 30)) = true := by rfl)
    (hline : (apos.endLine == cpos.line) = true := by rfl) (hs : starEach (e :: es) X.env = (false, eval e X.env) :: starEach es X.env := by rfl) (hplain : (backTo cpos (starEach es X.env)).any (·.1) = false := by rfl) :
    EI X (.Call (.Attribute o name apos) (e :: es) [] cpos) (mMeth T f m ms) := by
  obtain ⟨r, mo, i⟩ := hm
  obtain ⟨t, p, j⟩ := ho
  obtain ⟨ta, pa', ia⟩ := ha
  refine ⟨_, pe_bm pa slot hty mo p pa' hbase hfew hline hs hplain, fun F φ S H σ env d S' R E h Q a => ?_⟩
  obtain ⟨d0, S1, h1, h⟩ := bnd_some h
  split at h
  · rename_i ht
    obtain ⟨as, S2, h2, h⟩ := bnd_some h
    refine j F φ S H σ env d0 S1 R E h1 _ fun φ1 H1 v e1 R1 r1 => ⟨ty_of R1 r1 ht, ?_⟩
    refine ia F φ1 S1 H1 σ env as S2 R1 (E.mono e1) h2 _ fun φ2 H2 vs e2 R2 r2 => ?_
    exact i F φ2 S2 H2 d0 as v vs d S' R2 (RV.mono e2 _ _ r1) r2 h Q (a.mono (e1.trans e2))
  · cases h
def vAppend : MMt := fun a as S => match a, as with
  | .ref i, [d] => match S[i]? with
    | some (.lst l) => if l.length < sizeLine then some (.non, S.set i (.lst (l ++ [d]))) else none
    | _ => none
  | _, _ => none
theorem opm_append : OpM X "list.append" vAppend := ⟨_, mt_append, fun F φ S H a as x xs d S' R ra rs e Q q => by
  unfold vAppend at e
  split at e
  · rename_i i y
    split at e
    · rename_i l hl
      split at e
      · rename_i hz
        cases e
        obtain ⟨v, ws, h1, h2, h3⟩ := rs.inv
        unfold RV at ra
        obtain ⟨p, g1, g2⟩ := ra
        obtain ⟨ys, k1, k2⟩ := R.lst g2 hl
        obtain ⟨e', R'⟩ := R.set g2 hl (k2.append (.cons h2 .nil))
        exact ⟨p, ys, v, g1, by rw [h1, h3.inv0], k1, by rw [k2.length]; exact hz, q φ _ _ e' R' rv_non⟩
      · cases e
    · cases e
  · cases e⟩
def vPop : MMt := fun a as S => match a, as with
  | .ref i, [] => match S[i]? with
    | some (.lst l) => (l[l.length - 1]?).map fun d => (d, S.set i (.lst l.dropLast))
    | _ => none
  | _, _ => none
theorem RVs.dropLast {K : Frg} {F φ : List Addr} {H : Hp} {l : List Val} {xs : List V} (r : RVs K F φ H l xs) : RVs K F φ H l.dropLast xs.dropLast := by
  rw [List.dropLast_eq_take, List.dropLast_eq_take, r.length]
  exact r.take _
theorem opm_pop : OpM X "list.pop" vPop := ⟨_, mt_pop, fun F φ S H a as x xs d S' R ra rs e Q q => by
  unfold vPop at e
  split at e
  · rename_i i
    split at e
    · rename_i l hl
      cases e0 : l[l.length - 1]? with
      | none => rw [e0] at e; cases e
      | some y =>
        rw [e0] at e
        cases e
        unfold RV at ra
        obtain ⟨p, g1, g2⟩ := ra
        obtain ⟨ys, k1, k2⟩ := R.lst g2 hl
        obtain ⟨v, k3, k4⟩ := k2.get e0
        obtain ⟨e', R'⟩ := R.set g2 hl k2.dropLast
        refine ⟨p, ys, v, g1, rs.inv0, k1, ?_, q φ _ _ e' R' (RV.mono e' _ _ k4)⟩
        rw [k2.length]
        exact k3
    · cases e
  · cases e⟩
def vJoin : MMt := fun a as S => match a, as with
  | .str z, [.tup l] => (strsOf l).bind fun ys => if (ys.map (·.length)).sum + ys.length * z.length ≤ 16777216 then some (.str (Txt.join z ys), S) else none
  | .str z, [b] => (lstOf S b).bind fun l => (strsOf l).bind fun ys => if (ys.map (·.length)).sum + ys.length * z.length ≤ 16777216 then some (.str (Txt.join z ys), S) else none
  | _, _ => none
theorem opm_join : OpM X "str.join" vJoin := ⟨_, mt_join, fun F φ S H a as x xs d S' R ra rs e Q q => by
  unfold vJoin at e
  split at e
  · rename_i z l
    cases e0 : strsOf l with
    | none => rw [e0] at e; cases e
    | some ys =>
      rw [e0] at e
      simp only [Option.bind_some] at e
      split at e
      · rename_i hz
        cases e
        obtain ⟨v, ws, h1, h2, h3⟩ := rs.inv
        unfold RV at h2
        obtain ⟨p, us, g1, g2, g3⟩ := h2
        exact ⟨z, p, ys, ra.str, by rw [h1, h3.inv0, g1], .inr (by rw [← strs_of e0 g3]; exact g2), hz, q.now R rv_str⟩
      · cases e
  · rename_i z b _
    cases e1 : lstOf S b with
    | none => rw [e1] at e; cases e
    | some l =>
      rw [e1] at e
      simp only [Option.bind_some] at e
      cases e0 : strsOf l with
      | none => rw [e0] at e; cases e
      | some ys =>
        rw [e0] at e
        simp only [Option.bind_some] at e
        split at e
        · rename_i hz
          cases e
          obtain ⟨v, ws, h1, h2, h3⟩ := rs.inv
          obtain ⟨p, us, g1, g2, g3⟩ := lst_of R e1 h2
          exact ⟨z, p, ys, ra.str, by rw [h1, h3.inv0, g1], .inl (by rw [← strs_of e0 g3]; exact g2), hz, q.now R rv_str⟩
        · cases e
  · cases e⟩
end
end Fx
/-! Statements, loops, comprehensions. -/
namespace Fx
open PySem PySem.Spec PyProof.Rows L2

/-! ### the readings in one form for each meaning -/
def canE (K : Frg) (m : ME) : TE := fun σ H Q => ∃ F φ S env d S', Rp K F φ S H ∧ RE K F φ H env σ ∧ m env S = some (d, S') ∧ Aft K F φ H S' d Q
def canT (K : Frg) (m : MT) : TT := fun σ H Q => ∃ F φ S env d S', Rp K F φ S H ∧ RE K F φ H env σ ∧ m env S = some (d, S') ∧ AftB K F φ H S' d Q
theorem im_can {K : Frg} {m : ME} : Im K (canE K m) m := fun F φ S H σ env d S' R E h Q a => ⟨F, φ, S, env, d, S', R, E, h, a⟩
theorem imT_can {K : Frg} {m : MT} : ImT K (canT K m) m := fun F φ S H σ env d S' R E h Q a => ⟨F, φ, S, env, d, S', R, E, h, a⟩
theorem EI.can {X : Cx} {e : Expr} {m : ME} (h : EI X e m) : PE X e (canE X.K m) := by
  obtain ⟨t, p, i⟩ := h
  refine ⟨fun pins s σ H Q I q => ?_⟩
  obtain ⟨F, φ, S, env, d, S', R, E, h, a⟩ := q
  exact p.run pins s σ H Q I (i F φ S H σ env d S' R E h Q a)
def TsI (X : Cx) (es : List Expr) (m : MT) : Prop := ∃ t, PTs X es t ∧ ImT X.K t m
theorem TsI.can {X : Cx} {e : List Expr} {m : MT} (h : TsI X e m) : PTs X e (canT X.K m) := by
  obtain ⟨t, p, i⟩ := h
  refine ⟨fun pins s σ H Q I q => ?_⟩
  obtain ⟨F, φ, S, env, d, S', R, E, h, a⟩ := q
  exact p.run pins s σ H Q I (i F φ S H σ env d S' R E h Q a)
def mYes : MT := fun _ S => some (true, S)
theorem tsi_nil {X : Cx} : TsI X [] mYes := ⟨_, pts_nil, fun F φ S H σ env d S' R E h Q a => by
  cases h
  exact a.now R⟩
theorem tsi_one {X : Cx} {c : Expr} {m : MT} (h : TI X c m) : TsI X [c] m := by
  obtain ⟨t, p, i⟩ := h
  exact ⟨_, pts_one p, i⟩

/-! ### addresses that nothing may hold -/
section
variable {K : Frg} {F F' φ : List Addr} {H : Hp}
mutual
theorem RV.more (hf : ∀ a ∈ F', a ∈ F ∨ H a = none) : ∀ (d : Val) (v : V), RV K F φ H d v → RV K F' φ H d v
  | .non, v, h => by unfold RV at h ⊢; exact h
  | .bl b, v, h => by unfold RV at h ⊢; exact h
  | .int i, v, h => by unfold RV at h ⊢; exact h
  | .str x, v, h => by unfold RV at h ⊢; exact h
  | .raw w, v, h => by unfold RV at h ⊢; exact h
  | .tup l, v, h => by
    unfold RV at h ⊢
    obtain ⟨a, xs, h1, h2, h3⟩ := h
    exact ⟨a, xs, h1, h2, RVs.more hf l xs h3⟩
  | .fro l, v, h => by
    unfold RV at h ⊢
    obtain ⟨a, xs, h1, h2, h4, h5, h3⟩ := h
    refine ⟨a, xs, h1, h2, fun hm => ?_, h5, RVs.more hf l xs h3⟩
    rcases hf a hm with z | z
    · exact h4 z
    · rw [h5] at z; cases z
  | .scr l, v, h => by
    unfold RV at h ⊢
    obtain ⟨a, xs, h1, h2, h3⟩ := h
    exact ⟨a, xs, h1, h2, RVs.more hf l xs h3⟩
  | .ref i, v, h => by
    unfold RV at h ⊢
    exact h
  | .obj C ks vs, v, h => by
    unfold RV at h ⊢
    obtain ⟨a, dx, gs, h1, h2, h4, h5, h6, h3⟩ := h
    refine ⟨a, dx, gs, h1, h2, fun hm => ?_, h5, h6, RVs.more hf vs _ h3⟩
    rcases hf a hm with z | z
    · exact h4 z
    · rw [h5] at z; cases z
theorem RVs.more (hf : ∀ a ∈ F', a ∈ F ∨ H a = none) : ∀ (ds : List Val) (vs : List V), RVs K F φ H ds vs → RVs K F' φ H ds vs
  | [], vs, h => by unfold RVs at h ⊢; exact h
  | d :: ds, vs, h => by
    unfold RVs at h ⊢
    obtain ⟨v, ws, h1, h2, h3⟩ := h
    exact ⟨v, ws, h1, RV.more hf d v h2, RVs.more hf ds ws h3⟩
end
/- an address that nothing holds becomes a cell, or is written -/
mutual
theorem RV.adopt {D : Addr} {ψ : List Addr} (hD : ∀ a ∈ ψ, a ∈ F') (hf : ∀ a ∈ F, a ∈ F') : ∀ (d : Val) (v : V), RV K F' φ H d v → RV K F (φ ++ ψ) H d v
  | .non, v, h => by unfold RV at h ⊢; exact h
  | .bl b, v, h => by unfold RV at h ⊢; exact h
  | .int i, v, h => by unfold RV at h ⊢; exact h
  | .str x, v, h => by unfold RV at h ⊢; exact h
  | .raw w, v, h => by unfold RV at h ⊢; exact h
  | .tup l, v, h => by
    unfold RV at h ⊢
    obtain ⟨a, xs, h1, h2, h3⟩ := h
    exact ⟨a, xs, h1, h2, RVs.adopt (D := D) hD hf l xs h3⟩
  | .fro l, v, h => by
    unfold RV at h ⊢
    obtain ⟨a, xs, h1, h2, h4, h5, h3⟩ := h
    refine ⟨a, xs, h1, fun hm => ?_, fun hm => h4 (hf a hm), h5, RVs.adopt (D := D) hD hf l xs h3⟩
    rcases List.mem_append.mp hm with z | z
    · exact h2 z
    · exact h4 (hD a z)
  | .scr l, v, h => by
    unfold RV at h ⊢
    obtain ⟨a, xs, h1, h2, h3⟩ := h
    exact ⟨a, xs, h1, h2, RVs.adopt (D := D) hD hf l xs h3⟩
  | .ref i, v, h => by
    unfold RV at h ⊢
    obtain ⟨a, h1, h2⟩ := h
    exact ⟨a, h1, by rw [List.getElem?_append_left (List.getElem?_eq_some_iff.mp h2).1]; exact h2⟩
  | .obj C ks vs, v, h => by
    unfold RV at h ⊢
    obtain ⟨a, dx, gs, h1, h2, h4, h5, h6, h3⟩ := h
    refine ⟨a, dx, gs, h1, fun hm => ?_, fun hm => h4 (hf a hm), h5, h6, RVs.adopt (D := D) hD hf vs _ h3⟩
    rcases List.mem_append.mp hm with z | z
    · exact h2 z
    · exact h4 (hD a z)
theorem RVs.adopt {D : Addr} {ψ : List Addr} (hD : ∀ a ∈ ψ, a ∈ F') (hf : ∀ a ∈ F, a ∈ F') : ∀ (ds : List Val) (vs : List V), RVs K F' φ H ds vs → RVs K F (φ ++ ψ) H ds vs
  | [], vs, h => by unfold RVs at h ⊢; exact h
  | d :: ds, vs, h => by
    unfold RVs at h ⊢
    obtain ⟨v, ws, h1, h2, h3⟩ := h
    exact ⟨v, ws, h1, RV.adopt (D := D) hD hf d v h2, RVs.adopt (D := D) hD hf ds ws h3⟩
end
mutual
theorem RV.upd {D : Addr} {xs : List V} {o : HO} (hD : D ∈ F) (hl : H D = some (.lst xs)) : ∀ (d : Val) (v : V), RV K F φ H d v → RV K F φ (L2.upd H D o) d v
  | .non, v, h => by unfold RV at h ⊢; exact h
  | .bl b, v, h => by unfold RV at h ⊢; exact h
  | .int i, v, h => by unfold RV at h ⊢; exact h
  | .str x, v, h => by unfold RV at h ⊢; exact h
  | .raw w, v, h => by unfold RV at h ⊢; exact h
  | .tup l, v, h => by
    unfold RV at h ⊢
    obtain ⟨a, ys, h1, h2, h3⟩ := h
    refine ⟨a, ys, h1, ?_, RVs.upd hD hl l ys h3⟩
    rcases h2 with (h2 | ⟨ob, h2⟩) | h2
    · exact .inl (.inl (by rw [upd_ne (fun z => by rw [z, hl] at h2; cases h2)]; exact h2))
    · exact .inl (.inr ⟨ob, by rw [upd_ne (fun z => by rw [z, hl] at h2; cases h2)]; exact h2⟩)
    · exact .inr h2
  | .fro l, v, h => by
    unfold RV at h ⊢
    obtain ⟨a, ys, h1, h2, h4, h5, h3⟩ := h
    exact ⟨a, ys, h1, h2, h4, by rw [upd_ne (fun z => by subst z; exact h4 hD)]; exact h5, RVs.upd hD hl l ys h3⟩
  | .scr l, v, h => by
    unfold RV at h ⊢
    obtain ⟨a, ys, h1, h2, h3⟩ := h
    refine ⟨a, ys, h1, ?_, RVs.upd hD hl l ys h3⟩
    rcases h2 with ⟨ob, h2⟩ | h2
    · exact .inl ⟨ob, by rw [upd_ne (fun z => by rw [z, hl] at h2; cases h2)]; exact h2⟩
    · exact .inr h2
  | .ref i, v, h => by unfold RV at h ⊢; exact h
  | .obj C ks vs, v, h => by
    unfold RV at h ⊢
    obtain ⟨a, dx, gs, h1, h2, h4, h5, h6, h3⟩ := h
    exact ⟨a, dx, gs, h1, h2, h4, by rw [upd_ne (fun z => by subst z; exact h4 hD)]; exact h5, h6, RVs.upd hD hl vs _ h3⟩
theorem RVs.upd {D : Addr} {xs : List V} {o : HO} (hD : D ∈ F) (hl : H D = some (.lst xs)) : ∀ (ds : List Val) (vs : List V), RVs K F φ H ds vs → RVs K F φ (L2.upd H D o) ds vs
  | [], vs, h => by unfold RVs at h ⊢; exact h
  | d :: ds, vs, h => by
    unfold RVs at h ⊢
    obtain ⟨v, ws, h1, h2, h3⟩ := h
    exact ⟨v, ws, h1, RV.upd hD hl d v h2, RVs.upd hD hl ds ws h3⟩
end
theorem RE.more {env : VEnv} {σ : L2.St} (hf : ∀ a ∈ F', a ∈ F ∨ H a = none) (r : RE K F φ H env σ) : RE K F' φ H env σ := ⟨r.1, fun i d h => by
  obtain ⟨v, h1, h2⟩ := r.2 i d h
  exact ⟨v, h1, RV.more hf d v h2⟩⟩
end

/-! ### targets -/
abbrev MG := Val → VEnv → Store → Option (VEnv × Store)
abbrev MGs := List Val → VEnv → Store → Option (VEnv × Store)
def AftG (K : Frg) (F φ : List Addr) (H : Hp) (ws : List Nat) (σ : L2.St) (S' : Store) (env' : VEnv) (Q : L2.St → Hp → Prop) : Prop :=
  ∀ φ' H' σ', Ext φ H φ' H' → Rp K F φ' S' H' → RE K F φ' H' env' σ' → (σ'.length = σ.length ∧ ∀ i, i ∉ ws → σ'[i]? = σ[i]?) → Q σ' H'
def ImG (K : Frg) (ws : List Nat) (t : TG) (m : MG) : Prop := ∀ F φ S H σ env d v env' S', Rp K F φ S H → RE K F φ H env σ → RV K F φ H d v → m d env S = some (env', S') → ∀ Q : L2.St → Hp → Prop, AftG K F φ H ws σ S' env' Q → t v σ H Q
def ImGs (K : Frg) (ws : List Nat) (t : TGs) (m : MGs) : Prop := ∀ F φ S H σ env d v env' S', Rp K F φ S H → RE K F φ H env σ → RVs K F φ H d v → m d env S = some (env', S') → ∀ Q : L2.St → Hp → Prop, AftG K F φ H ws σ S' env' Q → t v σ H Q
def GI (X : Cx) (ws : List Nat) (tg : Expr) (m : MG) : Prop := ∃ t, PG X tg t ∧ ImG X.K ws t m
def GsI (X : Cx) (ws : List Nat) (tg : List Expr) (m : MGs) : Prop := ∃ t, PGs X tg t ∧ ImGs X.K ws t m
def canG (K : Frg) (ws : List Nat) (m : MG) : TG := fun v σ H Q => ∃ F φ S env d env' S', Rp K F φ S H ∧ RE K F φ H env σ ∧ RV K F φ H d v ∧ m d env S = some (env', S') ∧ AftG K F φ H ws σ S' env' Q
theorem imG_can {K : Frg} {ws : List Nat} {m : MG} : ImG K ws (canG K ws m) m := fun F φ S H σ env d v env' S' R E r h Q a => ⟨F, φ, S, env, d, env', S', R, E, r, h, a⟩
theorem GI.can {X : Cx} {ws : List Nat} {tg : Expr} {m : MG} (h : GI X ws tg m) : PG X tg (canG X.K ws m) := by
  obtain ⟨t, p, i⟩ := h
  refine ⟨fun pins s σ H v u Q I rv q => ?_⟩
  obtain ⟨F, φ, S, env, d, env', S', R, E, r, h, a⟩ := q
  exact p.run pins s σ H v u Q I rv (i F φ S H σ env d v env' S' R E r h Q a)
def gN (i : Nat) : MG := fun d env S => some (env.set i (some d), S)
def gT (n : Nat) (m : MGs) : MG := fun d env S => match d with
  | .tup l => if l.length = n then m l env S else none
  | _ => none
def gNil' : MGs := fun ds env S => match ds with
  | [] => some (env, S)
  | _ => none
def gCons' (m : MG) (n : MGs) : MGs := fun ds env S => match ds with
  | d :: ds => bnd (m d env S) fun e S1 => n ds e S1
  | [] => none
def gIx (mo mi : ME) : MG := fun d env S => bnd (mo env S) fun o S1 => bnd (mi env S1) fun i S2 => match o, i with
  | .ref k, .int j => match S2[k]? with
    | some (.lst l) => (ixN l.length j).map fun n => (env, S2.set k (.lst (l.set n d)))
    | _ => none
  | _, _ => none
section
variable {X : Cx} {pos : Pos} {ws ws' : List Nat}
theorem AftG.mono {K : Frg} {F φ φ' : List Addr} {H H' : Hp} {S' : Store} {σ : L2.St} {env : VEnv} {Q : L2.St → Hp → Prop} (a : AftG K F φ H ws σ S' env Q) (e : Ext φ H φ' H') : AftG K F φ' H' ws σ S' env Q :=
  fun φ2 H2 σ2 e2 R E k => a φ2 H2 σ2 (e.trans e2) R E k
theorem gi_n {i : Nat} {x : Str} (hN : X.N.Nodup) (hi : X.N[i]? = some x) (hx : Loc X.env.scope x) (hf : X.fn x = true ∨ X.env.scope.names.lookup x = some .local := by first | exact .inl rfl | exact .inr rfl | assumption) : GI X [i] (.Name x pos) (gN i) := by
  refine ⟨_, pg_name hN hi hx hf, fun F φ S H σ env d v env' S' R E r h Q a => ?_⟩
  cases h
  refine a φ H (σ.set i (some v)) Ext.refl R (E.set r i) ⟨by simp, fun j hj => ?_⟩
  rw [List.getElem?_set_ne (fun z => hj (by simp [z]))]
theorem gsi_nil : GsI X [] [] gNil' := by
  refine ⟨_, pgs_nil, fun F φ S H σ env d v env' S' R E r h Q a => ?_⟩
  cases d with
  | nil =>
    cases h
    exact ⟨r.inv0, a φ H σ Ext.refl R E ⟨rfl, fun _ _ => rfl⟩⟩
  | cons _ _ => cases h
theorem gsi_cons {e : Expr} {es : List Expr} {m : MG} {n : MGs} (h1 : GI X ws e m) (h2 : GsI X ws' es n)
    (hs : (assignEach (e :: es) X.env).map (·.2) = assign e X.env :: (assignEach es X.env).map (·.2) := by rfl) : GsI X (ws ++ ws') (e :: es) (gCons' m n) := by
  obtain ⟨t, p, i⟩ := h1
  obtain ⟨u, q, j⟩ := h2
  refine ⟨_, pgs_cons p q hs, fun F φ S H σ env d v env' S' R E r h Q a => ?_⟩
  cases d with
  | nil => cases h
  | cons d ds =>
    obtain ⟨v0, vs, e1, r1, r2⟩ := r.inv
    obtain ⟨env1, S1, h1, h⟩ := bnd_some h
    refine ⟨v0, vs, e1, i F φ S H σ env d v0 env1 S1 R E r1 h1 _ fun φ1 H1 σ1 x1 R1 E1 k1 => ?_⟩
    refine j F φ1 S1 H1 σ1 env1 ds vs env' S' R1 E1 (RVs.mono x1 _ _ r2) h Q fun φ2 H2 σ2 x2 R2 E2 k2 => a φ2 H2 σ2 (x1.trans x2) R2 E2 ⟨k2.1.trans k1.1, fun z hz => ?_⟩
    rw [List.mem_append, not_or] at hz
    rw [k2.2 z hz.2, k1.2 z hz.1]
theorem gi_t {es : List Expr} {k : Nat} {m : MGs} {n : Nat} (hc : X.calm = true) (h : GsI X ws es m) (hn : (assignEach es X.env).length = n := by rfl) (hst : (assignEach es X.env).findIdx? (·.1) = none := by rfl) : GI X ws (.Tuple es k pos) (gT n m) := by
  obtain ⟨t, p, i⟩ := h
  refine ⟨_, pg_tup hc p hn hst, fun F φ S H σ env d v env' S' R E r h Q a => ?_⟩
  unfold gT at h
  split at h
  · rename_i l
    split at h
    · rename_i hl
      unfold RV at r
      obtain ⟨b, xs, e1, e2, e3⟩ := r
      exact ⟨b, xs, e1, e2, by rw [e3.length]; exact hl, i F φ S H σ env l xs env' S' R E e3 h Q a⟩
    · cases h
  · cases h
theorem gi_ix {o i : Expr} {mo mi : ME} (ho : EI X o mo) (hi : EI X i mi)
    (ha : ∀ v, assign (.Subscript o i pos) X.env v = (do
      let ov ← holding [v] (eval o X.env)
      let iv ← holding [v, ov] (eval i X.env)
      standAt pos
      holding [v, ov, iv] (setItem ov iv v)
      release [v, ov, iv] []) := by intro _; rfl) : GI X [] (.Subscript o i pos) (gIx mo mi) := by
  obtain ⟨t, p, ip⟩ := ho
  obtain ⟨u, q, iq⟩ := hi
  refine ⟨_, pg_sub p q set_list ha, fun F φ S H σ env d v env' S' R E r h Q a => ?_⟩
  obtain ⟨d1, S1, h1, h⟩ := bnd_some h
  obtain ⟨d2, S2, h2, h⟩ := bnd_some h
  refine ip F φ S H σ env d1 S1 R E h1 _ fun φ1 H1 v1 e1 R1 r1 => ?_
  refine iq F φ1 S1 H1 σ env d2 S2 R1 (E.mono e1) h2 _ fun φ2 H2 v2 e2 R2 r2 => ?_
  split at h
  · rename_i k j _
    split at h
    · rename_i l hl
      cases e0 : ixN l.length j with
      | none => rw [e0] at h; cases h
      | some n =>
        rw [e0] at h
        cases h
        have r1' := RV.mono e2 _ _ r1
        unfold RV at r1'
        obtain ⟨b, g1, g2⟩ := r1'
        obtain ⟨ys, k1, k2⟩ := R2.lst g2 hl
        have rd := RV.mono (e1.trans e2) _ _ r
        obtain ⟨e', R'⟩ := R2.set g2 hl (k2.set rd n)
        refine ⟨b, ys, j, n, g1, r2.int, k1, by rw [k2.length]; exact e0, ?_⟩
        exact a φ2 _ σ (e1.trans (e2.trans e')) R' (E.mono (e1.trans (e2.trans e'))) ⟨rfl, fun _ _ => rfl⟩
    · cases h
  · cases h
end

/-! ### statements -/
inductive Out where
  | nx (env : VEnv)
  | rt (d : Val)
  | bk (env : VEnv)
  | ct (env : VEnv)
abbrev MS := MM Out
def AftE (K : Frg) (F φ : List Addr) (H : Hp) (S' : Store) (env : VEnv) (Q : L2.St → Hp → Prop) : Prop := ∀ φ' H' σ', Ext φ H φ' H' → Rp K F φ' S' H' → RE K F φ' H' env σ' → Q σ' H'
def AftS (K : Frg) (F φ : List Addr) (H : Hp) (S' : Store) (D : Ends) : Out → Prop
  | .nx env => AftE K F φ H S' env D.nx
  | .rt d => Aft K F φ H S' d D.rt
  | .bk env => AftE K F φ H S' env D.bk
  | .ct env => AftE K F φ H S' env D.ct
def ImS (K : Frg) (t : TS) (m : MS) : Prop := ∀ F φ S H σ env o S', Rp K F φ S H → RE K F φ H env σ → m env S = some (o, S') → ∀ D : Ends, AftS K F φ H S' D o → t D σ H
def SI (X : Cx) (st : Stmt) (m : MS) : Prop := ∃ t, PS X st t ∧ ImS X.K t m
def BI (X : Cx) (sts : List Stmt) (m : MS) : Prop := ∃ t, PSs X sts t ∧ ImS X.K t m
theorem AftE.mono {K : Frg} {F φ φ' : List Addr} {H H' : Hp} {S' : Store} {env : VEnv} {Q : L2.St → Hp → Prop} (a : AftE K F φ H S' env Q) (e : Ext φ H φ' H') : AftE K F φ' H' S' env Q := fun φ2 H2 σ2 e2 R E => a φ2 H2 σ2 (e.trans e2) R E
theorem AftS.mono {K : Frg} {F φ φ' : List Addr} {H H' : Hp} {S' : Store} {D : Ends} {o : Out} (a : AftS K F φ H S' D o) (e : Ext φ H φ' H') : AftS K F φ' H' S' D o := by
  cases o with
  | nx env => exact AftE.mono a e
  | rt d => exact Aft.mono a e
  | bk env => exact AftE.mono a e
  | ct env => exact AftE.mono a e
def mSkip : MS := fun env S => some (.nx env, S)
def mThen (m n : MS) : MS := fun env S => bnd (m env S) fun o S1 => match o with
  | .nx e => n e S1
  | .rt d => some (.rt d, S1)
  | .bk e => some (.bk e, S1)
  | .ct e => some (.ct e, S1)
def mRet (m : ME) : MS := fun env S => bnd (m env S) fun d S1 => some (.rt d, S1)
def mRetN : MS := fun _ S => some (.rt .non, S)
def mDo (m : ME) : MS := fun env S => bnd (m env S) fun _ S1 => some (.nx env, S1)
def mWhen (c : MT) (m n : MS) : MS := fun env S => bnd (c env S) fun b S1 => if b = true then m env S1 else n env S1
def mSet (m : ME) (g : MG) : MS := fun env S => bnd (m env S) fun d S1 => bnd (g d env S1) fun e S2 => some (.nx e, S2)
def mBk : MS := fun env S => some (.bk env, S)
def mCt : MS := fun env S => some (.ct env, S)
section
variable {X : Cx} {st : Stmt} {rest : List Stmt} {m n : MS} {e : Expr} {me : ME} {pos : Pos}
theorem bi_nil : BI X [] mSkip := ⟨_, pss_nil, fun F φ S H σ env o S' R E h D a => by
  cases h
  exact a φ H σ Ext.refl R E⟩
theorem bi_cons (h : SI X st m) (g : BI X rest n) : BI X (st :: rest) (mThen m n) := by
  obtain ⟨t, p, i⟩ := h
  obtain ⟨u, q, j⟩ := g
  refine ⟨_, pss_cons p q, fun F φ S H σ env o S' R E h D a => ?_⟩
  obtain ⟨o1, S1, h1, h⟩ := bnd_some h
  refine i F φ S H σ env o1 S1 R E h1 { D with nx := u D } ?_
  cases o1 with
  | nx e1 => exact fun φ1 H1 σ1 x1 R1 E1 => j F φ1 S1 H1 σ1 e1 o S' R1 E1 h D (a.mono x1)
  | rt d =>
    cases h
    exact a
  | bk e1 =>
    cases h
    exact a
  | ct e1 =>
    cases h
    exact a
theorem bi_one (h : SI X st m) : BI X [st] m := by
  obtain ⟨t, p, i⟩ := h
  exact ⟨_, pss_one p, i⟩
theorem si_ret (h : EI X e me) : SI X (.Return (some e) pos) (mRet me) := by
  obtain ⟨t, p, i⟩ := h
  refine ⟨_, ps_ret p, fun F φ S H σ env o S' R E h D a => ?_⟩
  obtain ⟨d, S1, h1, h⟩ := bnd_some h
  cases h
  exact i F φ S H σ env d S' R E h1 D.rt a
theorem si_retN : SI X (.Return none pos) mRetN := ⟨_, ps_retN, fun F φ S H σ env o S' R E h D a => by
  cases h
  exact Aft.now (d := .non) a R rv_non⟩
theorem si_pass : SI X (.Pass pos) mSkip := ⟨_, ps_pass, fun F φ S H σ env o S' R E h D a => by
  cases h
  exact a φ H σ Ext.refl R E⟩
theorem si_bk : SI X (.Break pos) mBk := ⟨_, ps_break, fun F φ S H σ env o S' R E h D a => by
  cases h
  exact a φ H σ Ext.refl R E⟩
theorem si_ct : SI X (.Continue pos) mCt := ⟨_, ps_continue, fun F φ S H σ env o S' R E h D a => by
  cases h
  exact a φ H σ Ext.refl R E⟩
theorem si_expr (h : EI X e me) (hs : swapsWith e none pos.line X.env = pure false := by rfl) : SI X (.Expr e pos) (mDo me) := by
  obtain ⟨t, p, i⟩ := h
  refine ⟨_, ps_expr p hs, fun F φ S H σ env o S' R E h D a => ?_⟩
  obtain ⟨d, S1, h1, h⟩ := bnd_some h
  cases h
  exact i F φ S H σ env d S' R E h1 _ fun φ1 H1 v e1 R1 _ => a φ1 H1 σ e1 R1 (E.mono e1)
theorem si_if {c : Expr} {a b : List Stmt} {mc : MT} (hc : TI X c mc) (ha : BI X a m) (hb : BI X b n) : SI X (.If c a b pos) (mWhen mc m n) := by
  obtain ⟨t, p, i⟩ := hc
  obtain ⟨u, q, j⟩ := ha
  obtain ⟨w, r, k⟩ := hb
  refine ⟨_, ps_if p q r, fun F φ S H σ env o S' R E h D a => ?_⟩
  obtain ⟨b, S1, h1, h⟩ := bnd_some h
  refine i F φ S H σ env b S1 R E h1 _ fun φ1 H1 e1 R1 => ?_
  cases b with
  | true => exact j F φ1 S1 H1 σ env o S' R1 (E.mono e1) h D (a.mono e1)
  | false => exact k F φ1 S1 H1 σ env o S' R1 (E.mono e1) h D (a.mono e1)
theorem im_set {K : Frg} {t : TE} {g : TG} {ws : List Nat} {mg : MG} (i : Im K t me) (j : ImG K ws g mg) : ImS K (tAsg t g) (mSet me mg) := fun F φ S H σ env o S' R E h D a => by
  obtain ⟨d, S1, h1, h⟩ := bnd_some h
  obtain ⟨env1, S2, h2, h⟩ := bnd_some h
  cases h
  refine i F φ S H σ env d S1 R E h1 _ fun φ1 H1 v e1 R1 r1 => ?_
  exact j F φ1 S1 H1 σ env d v env1 S' R1 (E.mono e1) r1 h2 D.nx fun φ2 H2 σ2 e2 R2 E2 _ => a φ2 H2 σ2 (e1.trans e2) R2 E2
theorem si_asg {tg : Expr} {ws : List Nat} {mg : MG} (h : EI X e me) (hg : GI X ws tg mg) (hs : swapsWithSole [tg] e pos.line X.env = pure false := by rfl) (hw : swappedStores [tg] e X.env = pure none := by rfl)
    (h1 : (assignEach [tg] X.env).map (·.2) = [assign tg X.env] := by rfl) : SI X (.Assign [tg] e pos) (mSet me mg) := by
  obtain ⟨t, p, i⟩ := h
  obtain ⟨g, q, j⟩ := hg
  exact ⟨_, ps_asg p q hs hw h1, im_set i j⟩
theorem im_gn {K : Frg} {i : Nat} : ImG K [i] (gName i) (gN i) := fun F φ S H σ env d v env' S' R E r h Q a => by
  cases h
  refine a φ H (σ.set i (some v)) Ext.refl R (E.set r i) ⟨by simp, fun j hj => ?_⟩
  rw [List.getElem?_set_ne (fun z => hj (by simp [z]))]
theorem si_set {i : Nat} {x : Str} {pos' : Pos} (hN : X.N.Nodup) (hi : X.N[i]? = some x) (hx : Loc X.env.scope x) (h : EI X e me) (hs : swapsWith e (some (.Name x pos')) pos.line X.env = pure false := by rfl) (hf : X.fn x = true ∨ X.env.scope.names.lookup x = some .local := by first | exact .inl rfl | exact .inr rfl | assumption) :
    SI X (.Assign [.Name x pos'] e pos) (mSet me (gN i)) := by
  obtain ⟨t, p, j⟩ := h
  exact ⟨_, ps_set hN hi hx p hs hf, im_set j im_gn⟩
/-- a, b = x, y -/
def mPar (i j : Nat) (ms : MA) : MS := fun env S => bnd (ms env S) fun ds S1 => match ds with
  | [a, b] => some (.nx ((env.set i (some a)).set j (some b)), S1)
  | _ => none
theorem si_par {i j : Nat} {x y : Str} {a b : Expr} {ms : MA} {px py pt : Pos} {kt k2 pt2} (hc : X.calm = true) (hN : X.N.Nodup) (hi : X.N[i]? = some x) (hj : X.N[j]? = some y) (hij : i ≠ j)
    (hx : X.env.scope.names.lookup x = some .local) (hy : X.env.scope.names.lookup y = some .local) (ha : AI X [a, b] ms)
    (hw : swappedStores [.Tuple [.Name x px, .Name y py] kt pt] (.Tuple [a, b] k2 pt2) X.env = pure (some [x, y]))
    (hs : swapsWithSole [.Tuple [.Name x px, .Name y py] kt pt] (.Tuple [a, b] k2 pt2) pos.line X.env = pure false := by rfl) :
    SI X (.Assign [.Tuple [.Name x px, .Name y py] kt pt] (.Tuple [a, b] k2 pt2) pos) (mPar i j ms) := by
  obtain ⟨t, p, q⟩ := ha
  refine ⟨_, ps_par hc hN hi hj hij hx hy p hw hs, fun F φ S H σ env o S' R E h D a => ?_⟩
  obtain ⟨ds, S1, h1, h⟩ := bnd_some h
  split at h
  · rename_i d1 d2 _
    cases h
    refine q F φ S H σ env _ S' R E h1 _ fun φ1 H1 vs e1 R1 r1 => ?_
    obtain ⟨v, ws, g1, g2, g3⟩ := r1.inv
    obtain ⟨v', ws', k1, k2, k3⟩ := g3.inv
    refine ⟨v, v', by rw [g1, k1, k3.inv0], a φ1 H1 _ e1 R1 (((E.mono e1).set g2 i).set k2 j)⟩
  · cases h
/-- a, b, c = x, y, z -/
def mPar3 (i j l : Nat) (ms : MA) : MS := fun env S => bnd (ms env S) fun ds S1 => match ds with
  | [a, b, c] => some (.nx (((env.set i (some a)).set j (some b)).set l (some c)), S1)
  | _ => none
/-- name op= e -/
def mAug (i : Nat) (f : M2) (m : ME) : MS := fun env S => match env[i]? with
  | some (some x) => bnd (m env S) fun y S1 => bnd (f x y S1) fun z S2 => some (.nx (env.set i (some z)), S2)
  | _ => none
theorem si_aug {i : Nat} {x : Str} {op : Operator} {f : M2} {pos' : Pos} (hN : X.N.Nodup) (hi : X.N[i]? = some x) (hx : Loc X.env.scope x) (h : EI X e me) (ho : Op2 X (inplaceOp op) f) (hf : X.fn x = true ∨ X.env.scope.names.lookup x = some .local := by first | exact .inl rfl | exact .inr rfl | assumption) :
    SI X (.AugAssign (.Name x pos') op e pos) (mAug i f me) := by
  obtain ⟨t, p, j⟩ := h
  obtain ⟨r, q, k⟩ := ho
  refine ⟨_, ps_aug hN hi hx p (ti := r) (fun pins s σ H x y v u Q I r1 r2 h => q pins s σ H x y v u Q I r1 r2 h) hf, fun F φ S H σ env o S' R E h D a => ?_⟩
  unfold mAug at h
  split at h
  · rename_i d hd
    obtain ⟨v, g1, g2⟩ := E.2 i d hd
    obtain ⟨y, S1, h1, h⟩ := bnd_some h
    obtain ⟨z, S2, h2, h⟩ := bnd_some h
    cases h
    refine ⟨v, g1, j F φ S H σ env y S1 R E h1 _ fun φ1 H1 w e1 R1 r1 => ?_⟩
    refine k F φ1 S1 H1 d y v w z S' R1 (RV.mono e1 _ _ g2) r1 h2 _ fun φ2 H2 u e2 R2 r2 => ?_
    exact a φ2 H2 _ (e1.trans e2) R2 ((E.mono (e1.trans e2)).set r2 i)
  · cases h
end

/-! ### while -/
def whN (c : MT) (b : MS) : Nat → MS
  | 0 => fun _ _ => none
  | n + 1 => fun env S => bnd (c env S) fun t S1 => if t = true then bnd (b env S1) fun o S2 => match o with
    | .nx e => whN c b n e S2
    | .ct e => whN c b n e S2
    | .bk e => some (.nx e, S2)
    | .rt d => some (.rt d, S2)
    else some (.nx env, S1)
theorem whN_more {c : MT} {b : MS} : ∀ (n : Nat) (env : VEnv) (S : Store) r, whN c b n env S = some r → whN c b (n + 1) env S = some r
  | 0, env, S, r, h => by cases h
  | n + 1, env, S, r, h => by
    unfold whN at h ⊢
    obtain ⟨t, S1, h1, h⟩ := bnd_some (r := r) h
    rw [h1]
    show (if t = true then _ else _) = _
    dsimp only [bnd] at h ⊢
    by_cases ht : t = true
    · rw [if_pos ht] at h ⊢
      obtain ⟨o, S2, h2, h⟩ := bnd_some (r := r) h
      rw [h2]
      cases o with
      | nx e => exact whN_more n e S2 r h
      | ct e => exact whN_more n e S2 r h
      | bk e => exact h
      | rt d => exact h
    · rw [if_neg ht] at h ⊢
      exact h
theorem whN_le {c : MT} {b : MS} {n k : Nat} (hk : n ≤ k) {env : VEnv} {S : Store} {r} (h : whN c b n env S = some r) : whN c b k env S = some r := by
  induction hk with
  | refl => exact h
  | step _ ih => exact whN_more _ _ _ _ ih
open Classical in
noncomputable def mWhile (c : MT) (b : MS) : MS := fun env S => if h : ∃ r, ∃ n, whN c b n env S = some r then some (Classical.choose h) else none
theorem mWhile_spec {c : MT} {b : MS} {env : VEnv} {S : Store} {r} (h : mWhile c b env S = some r) : ∃ n, whN c b n env S = some r := by
  unfold mWhile at h
  split at h
  · rename_i q
    cases h
    exact Classical.choose_spec q
  · cases h
theorem mWhile_of {c : MT} {b : MS} {env : VEnv} {S : Store} {r} {n : Nat} (h : whN c b n env S = some r) : mWhile c b env S = some r := by
  have q : ∃ r, ∃ n, whN c b n env S = some r := ⟨r, n, h⟩
  unfold mWhile
  rw [dif_pos q]
  obtain ⟨k, hk⟩ := Classical.choose_spec q
  have e1 := whN_le (Nat.le_max_left n k) h
  have e2 := whN_le (Nat.le_max_right n k) hk
  rw [e1] at e2
  cases e2
  rfl
theorem si_while {X : Cx} {c : Expr} {body : List Stmt} {mc : MT} {mb : MS} {pos : Pos} (hp : PassesOwn (model X.prog X.w) X.A X.env X.xe) (hc : TI X c mc) (hb : BI X body mb) : SI X (.While c body [] pos) (mWhile mc mb) := by
  obtain ⟨t, p, i⟩ := hc
  obtain ⟨u, q, j⟩ := hb
  refine ⟨_, ps_while hp p q, fun F φ S H σ env o S' R E h D a => ?_⟩
  obtain ⟨n, h⟩ := mWhile_spec h
  refine ⟨fun k σ1 H1 => ∃ φ1 S1 env1, Ext φ H φ1 H1 ∧ Rp X.K F φ1 S1 H1 ∧ RE X.K F φ1 H1 env1 σ1 ∧ whN mc mb k env1 S1 = some (o, S'), ⟨n, φ, S, env, Ext.refl, R, E, h⟩, ?_⟩
  rintro k σ1 H1 ⟨φ1, S1, env1, x1, R1, E1, h1⟩
  cases k with
  | zero => cases h1
  | succ k =>
    unfold whN at h1
    obtain ⟨b, S2, h2, h1⟩ := bnd_some (r := (o, S')) h1
    refine i F φ1 S1 H1 σ1 env1 b S2 R1 E1 h2 _ fun φ2 H2 x2 R2 => ?_
    have E2 := E1.mono x2
    cases b with
    | false =>
      rw [if_neg Bool.false_ne_true] at h1 ⊢
      cases h1
      exact a φ2 H2 σ1 (x1.trans x2) R2 E2
    | true =>
      rw [if_pos rfl] at h1 ⊢
      obtain ⟨o1, S3, h3, h1⟩ := bnd_some (r := (o, S')) h1
      refine ⟨fun σ3 H3 => ∃ φ3 S3 env3, Ext φ H φ3 H3 ∧ Rp X.K F φ3 S3 H3 ∧ RE X.K F φ3 H3 env3 σ3 ∧ whN mc mb k env3 S3 = some (o, S'), fun σ3 H3 w => ⟨k, Nat.lt_succ_self k, w⟩, ?_⟩
      refine j F φ2 S2 H2 σ1 env1 o1 S3 R2 E2 h3 _ ?_
      cases o1 with
      | nx e => exact fun φ3 H3 σ3 x3 R3 E3 => ⟨φ3, S3, e, x1.trans (x2.trans x3), R3, E3, h1⟩
      | ct e => exact fun φ3 H3 σ3 x3 R3 E3 => ⟨φ3, S3, e, x1.trans (x2.trans x3), R3, E3, h1⟩
      | bk e =>
        cases h1
        exact fun φ3 H3 σ3 x3 R3 E3 => a φ3 H3 σ3 (x1.trans (x2.trans x3)) R3 E3
      | rt d =>
        cases h1
        exact fun φ3 H3 v x3 R3 r3 => a φ3 H3 v (x1.trans (x2.trans x3)) R3 r3
end Fx
/-! What is walked; for; list comprehensions. -/
namespace Fx
open PySem PySem.Spec PyProof.Rows L2

/-- an iterator that gives the items, whatever is made meanwhile -/
def WalkI (K : Frg) (F : List Addr) (φ₀ : List Addr) (H₀ : Hp) (J : It) (items : List Val) : Prop :=
  ∀ F' φ S H, (∀ a ∈ F', a ∈ F ∨ H₀ a = none) → Ext φ₀ H₀ φ H → Rp K F' φ S H → (∀ i, i < items.length → J.go i H) ∧ J.stop items.length H ∧
    ∀ i x H', i < items.length → J.yld i H x H' → ∃ d, items[i]? = some d ∧ Ext φ H φ H' ∧ Rp K F' φ S H' ∧ RV K F' φ H' d x
def AftI (K : Frg) (F φ : List Addr) (H : Hp) (S' : Store) (items : List Val) (R : It → Hp → Prop) : Prop := ∀ φ' H' J, Ext φ H φ' H' → Rp K F φ' S' H' → WalkI K F φ' H' J items → R J H'
def ImI (K : Frg) (t : L2.TI) (m : MA) : Prop := ∀ F φ S H σ env ds S', Rp K F φ S H → RE K F φ H env σ → m env S = some (ds, S') → ∀ R : It → Hp → Prop, AftI K F φ H S' ds R → t σ H R
def II (X : Cx) (tg e : Expr) (m : MA) : Prop := ∃ t, PI X tg e t ∧ ImI X.K t m
theorem Ext.upT {φ : List Addr} {H : Hp} {T : Addr} {o : HO} (h : H T = none) : Ext φ H φ (upd H T o) := Ext.new h
section
variable {K : Frg} {F φ : List Addr} {H : Hp}
theorem walk_l {a : Addr} {l : List Val} {xs : List V} (hs : ∀ F' φ' S H', (∀ a ∈ F', a ∈ F ∨ H a = none) → Ext φ H φ' H' → Rp K F' φ' S H' → SqL K H' a xs) (r : RVs K F φ H l xs) : WalkI K F φ H (Itl K a) l := fun F' φ' S H' hf e R => by
  have q := hs F' φ' S H' hf e R
  have r' := RVs.mono e _ _ (RVs.more hf _ _ r)
  refine ⟨fun i hi => ?_, ⟨xs, q, by rw [r.length]; exact Nat.le_refl _⟩, fun i x H2 hi y => ?_⟩
  · obtain ⟨v, h1, _⟩ := r.get (List.getElem?_eq_getElem hi)
    exact ⟨xs, v, q, h1⟩
  · obtain ⟨rfl, y⟩ := y
    obtain ⟨d, h1, h2⟩ := r'.get' (y xs q)
    exact ⟨d, h1, Ext.refl, R, h2⟩
theorem walk_t {a : Addr} {l : List Val} {xs : List V} (hs : SqT K H a xs) (r : RVs K F φ H l xs) : WalkI K F φ H (Itt K a) l := fun F' φ' S H' hf e R => by
  have q : SqT K H' a xs := e.sqT hs
  have r' := RVs.mono e _ _ (RVs.more hf _ _ r)
  refine ⟨fun i hi => ?_, ⟨xs, q, by rw [r.length]; exact Nat.le_refl _⟩, fun i x H2 hi y => ?_⟩
  · obtain ⟨v, h1, _⟩ := r.get (List.getElem?_eq_getElem hi)
    exact ⟨xs, v, q, h1⟩
  · obtain ⟨rfl, y⟩ := y
    obtain ⟨d, h1, h2⟩ := r'.get' (y xs q)
    exact ⟨d, h1, Ext.refl, R, h2⟩
/-- a list that stays, as something to be read later -/
theorem stay_fro {a : Addr} {xs : List V} (n : a ∉ φ) (h : H a = some (.lst xs)) : ∀ F' φ' (S : Store) H', (∀ a ∈ F', a ∈ F ∨ H a = none) → Ext φ H φ' H' → Rp K F' φ' S H' → SqL K H' a xs := fun _ _ _ _ _ e _ => SqL.of (e.old _ _ h n)
theorem stay_scr {a : Addr} {xs : List V} (h : Scr K H a xs) : ∀ F' φ' (S : Store) H', (∀ a ∈ F', a ∈ F ∨ H a = none) → Ext φ H φ' H' → Rp K F' φ' S H' → SqL K H' a xs := fun _ _ _ _ _ e _ => (e.scr h).sq
/-- a value that stays a list -/
def froOf : Val → Option (List Val)
  | .fro l => some l
  | .scr l => some l
  | _ => none
theorem fro_of {d : Val} {v : V} {l : List Val} (e : froOf d = some l) (r : RV K F φ H d v) : ∃ a xs, v = .ref a ∧ RVs K F φ H l xs ∧ SqL K H a xs ∧
    ∀ F' φ' (S : Store) H', (∀ a ∈ F', a ∈ F ∨ H a = none) → Ext φ H φ' H' → Rp K F' φ' S H' → SqL K H' a xs := by
  cases d with
  | fro l' =>
    cases e
    unfold RV at r
    obtain ⟨a, xs, h1, h2, h3, h4, h5⟩ := r
    exact ⟨a, xs, h1, h5, SqL.of h4, stay_fro h2 h4⟩
  | scr l' =>
    cases e
    unfold RV at r
    obtain ⟨a, xs, h1, h2, h3⟩ := r
    exact ⟨a, xs, h1, h3, h2.sq, stay_scr h2⟩
  | _ => cases e
end
def signs (z : Str) : List Val := z.cps.toList.map fun c => .str ⟨#[c]⟩
def mItems (m : ME) : MA := fun env S => bnd (m env S) fun d S1 => match d with
  | .tup l => some (l, S1)
  | .str z => some (signs z, S1)
  | d => (froOf d).map fun l => (l, S1)
def rangeV (lo : Int) (n : Nat) : List Val := (List.range n).map fun i => .int (lo + (i : Nat))
def mRng1 (ms : MA) : MA := fun env S => bnd (ms env S) fun ds S1 => match ds with
  | [.int j] => if -(2 ^ 62) ≤ j ∧ j < 2 ^ 62 then some (rangeV 0 j.toNat, S1) else none
  | _ => none
def mRng2 (ms : MA) : MA := fun env S => bnd (ms env S) fun ds S1 => match ds with
  | [.int i, .int j] => if -(2 ^ 62) ≤ i ∧ i < 2 ^ 62 ∧ -(2 ^ 62) ≤ j ∧ j < 2 ^ 62 then some (rangeV i (j - i).toNat, S1) else none
  | _ => none
def mEnum (ms : MA) : MA := fun env S => bnd (ms env S) fun ds S1 => match ds with
  | [d] => (froOf d).map fun l => (l.mapIdx fun i x => .tup [.int (i : Nat), x], S1)
  | _ => none
def mZip (ms : MA) : MA := fun env S => bnd (ms env S) fun ds S1 => match ds with
  | [.tup l, .tup k] => some (List.zipWith (fun x y => .tup [x, y]) l k, S1)
  | [a, b] => (froOf a).bind fun l => (froOf b).map fun k => (List.zipWith (fun x y => .tup [x, y]) l k, S1)
  | _ => none
section
variable {K : Frg} {F φ : List Addr} {H : Hp}
theorem walk_rng {lo : Int} {n : Nat} : WalkI K F φ H (Itr lo n) (rangeV lo n) := fun F' φ' S H' hf e R => by
  have hl : (rangeV lo n).length = n := by unfold rangeV; simp
  refine ⟨fun i hi => by rw [hl] at hi; exact hi, by rw [hl]; exact Nat.le_refl _, fun i x H2 hi y => ?_⟩
  obtain ⟨rfl, rfl⟩ := y
  rw [hl] at hi
  refine ⟨.int (lo + (i : Nat)), ?_, Ext.refl, R, rv_int⟩
  unfold rangeV
  rw [List.getElem?_map, List.getElem?_range hi]
  rfl
theorem walk_s {z : Str} : WalkI K F φ H (Its z) (signs z) := fun F' φ' S H' hf e R => by
  have hl : (signs z).length = z.cps.size := by unfold signs; simp
  refine ⟨fun i hi => by rw [hl] at hi; exact hi, by rw [hl]; exact Nat.le_refl _, fun i x H2 hi y => ?_⟩
  obtain ⟨rfl, c, h1, rfl⟩ := y
  refine ⟨.str ⟨#[c]⟩, ?_, Ext.refl, R, rv_str⟩
  unfold signs
  rw [List.getElem?_map, Array.getElem?_toList, h1]
  rfl
theorem walk_e {a : Addr} {l : List Val} {xs : List V} (hs : ∀ F' φ' S H', (∀ a ∈ F', a ∈ F ∨ H a = none) → Ext φ H φ' H' → Rp K F' φ' S H' → SqL K H' a xs) (r : RVs K F φ H l xs) :
    WalkI K F φ H (Ite K a) (l.mapIdx fun i x => .tup [.int (i : Nat), x]) := fun F' φ' S H' hf e R => by
  have q := hs F' φ' S H' hf e R
  have r' := RVs.mono e _ _ (RVs.more hf _ _ r)
  have hl : (l.mapIdx fun i x => Val.tup [.int (i : Nat), x]).length = l.length := List.length_mapIdx
  refine ⟨fun i hi => ?_, ⟨xs, q, by rw [hl, r.length]; exact Nat.le_refl _⟩, fun i x H2 hi y => ?_⟩
  · rw [hl] at hi
    obtain ⟨v, h1, _⟩ := r.get (List.getElem?_eq_getElem hi)
    exact ⟨xs, v, q, h1⟩
  · obtain ⟨T, x', rfl, hT, rfl, y⟩ := y
    obtain ⟨d, h1, h2⟩ := r'.get' (y xs q)
    refine ⟨.tup [.int (i : Nat), d], ?_, Ext.new hT, R.new hT, ?_⟩
    · rw [List.getElem?_mapIdx, h1]
      rfl
    · unfold RV
      exact ⟨T, _, rfl, SqT.of upd_same, .cons rv_int (.cons (RV.mono (Ext.new hT) _ _ h2) .nil)⟩
theorem walk_z {a b : Addr} {l k : List Val} {xs ys : List V} (hs : ∀ F' φ' S H', (∀ a ∈ F', a ∈ F ∨ H a = none) → Ext φ H φ' H' → Rp K F' φ' S H' → SqL K H' a xs) (r : RVs K F φ H l xs)
    (gs : ∀ F' φ' S H', (∀ a ∈ F', a ∈ F ∨ H a = none) → Ext φ H φ' H' → Rp K F' φ' S H' → SqL K H' b ys) (r2 : RVs K F φ H k ys) :
    WalkI K F φ H (Itz K a b) (List.zipWith (fun x y => .tup [x, y]) l k) := fun F' φ' S H' hf e R => by
  have q := hs F' φ' S H' hf e R
  have q2 := gs F' φ' S H' hf e R
  have r' := RVs.mono e _ _ (RVs.more hf _ _ r)
  have r2' := RVs.mono e _ _ (RVs.more hf _ _ r2)
  have hl : (List.zipWith (fun x y => Val.tup [x, y]) l k).length = min l.length k.length := List.length_zipWith
  have l1 := r.length
  have l2 := r2.length
  refine ⟨fun i hi => ?_, ⟨xs, ys, q, q2, by rw [hl, l1, l2]; omega⟩, fun i x H2 hi y => ?_⟩
  · rw [hl] at hi
    obtain ⟨v, h1, _⟩ := r.get (List.getElem?_eq_getElem (i := i) (by omega))
    obtain ⟨v2, h2, _⟩ := r2.get (List.getElem?_eq_getElem (i := i) (by omega))
    exact ⟨xs, ys, v, v2, q, q2, h1, h2⟩
  · obtain ⟨T, x', y', rfl, hT, rfl, g1, g2⟩ := y
    obtain ⟨d, h1, h2⟩ := r'.get' (g1 xs q)
    obtain ⟨d2, h3, h4⟩ := r2'.get' (g2 ys q2)
    refine ⟨.tup [d, d2], ?_, Ext.new hT, R.new hT, ?_⟩
    · rw [List.getElem?_zipWith, h1, h3]
    · unfold RV
      exact ⟨T, _, rfl, SqT.of upd_same, .cons (RV.mono (Ext.new hT) _ _ h2) (.cons (RV.mono (Ext.new hT) _ _ h4) .nil)⟩
theorem walk_zt {a b : Addr} {l k : List Val} {xs ys : List V} (hs : SqT K H a xs) (r : RVs K F φ H l xs) (gs : SqT K H b ys) (r2 : RVs K F φ H k ys) :
    WalkI K F φ H (RZ.ItzT K a b) (List.zipWith (fun x y => .tup [x, y]) l k) := fun F' φ' S H' hf e R => by
  have q : SqT K H' a xs := e.sqT hs
  have q2 : SqT K H' b ys := e.sqT gs
  have r' := RVs.mono e _ _ (RVs.more hf _ _ r)
  have r2' := RVs.mono e _ _ (RVs.more hf _ _ r2)
  have hl : (List.zipWith (fun x y => Val.tup [x, y]) l k).length = min l.length k.length := List.length_zipWith
  have l1 := r.length
  have l2 := r2.length
  refine ⟨fun i hi => ?_, ⟨xs, ys, q, q2, by rw [hl, l1, l2]; omega⟩, fun i x H2 hi y => ?_⟩
  · rw [hl] at hi
    obtain ⟨v, h1, _⟩ := r.get (List.getElem?_eq_getElem (i := i) (by omega))
    obtain ⟨v2, h2, _⟩ := r2.get (List.getElem?_eq_getElem (i := i) (by omega))
    exact ⟨xs, ys, v, v2, q, q2, h1, h2⟩
  · obtain ⟨T, x', y', rfl, hT, rfl, g1, g2⟩ := y
    obtain ⟨d, h1, h2⟩ := r'.get' (g1 xs q)
    obtain ⟨d2, h3, h4⟩ := r2'.get' (g2 ys q2)
    refine ⟨.tup [d, d2], ?_, Ext.new hT, R.new hT, ?_⟩
    · rw [List.getElem?_zipWith, h1, h3]
    · unfold RV
      exact ⟨T, _, rfl, SqT.of upd_same, .cons (RV.mono (Ext.new hT) _ _ h2) (.cons (RV.mono (Ext.new hT) _ _ h4) .nil)⟩
end
/-- one source or the other -/
theorem pi_or {X : Cx} {tg e : Expr} {t u : L2.TI} (h : PI X tg e t) (g : PI X tg e u) : PI X tg e (fun σ H R => t σ H R ∨ u σ H R) := ⟨fun pins s σ H R I q => by
  rcases q with q | q
  · exact h.run pins s σ H R I q
  · exact g.run pins s σ H R I q⟩
section
variable {X : Cx} {tg e e2 : Expr} {m : ME} {ms : MA} {p pos : Pos}
theorem ii_v (h : EI X e m) : II X tg e (mItems m) := by
  obtain ⟨t, p, i⟩ := h
  refine ⟨_, pi_or (pi_list p) (pi_or (pi_tup p) (pi_str p)), fun F φ S H σ env ds S' R E h Q a => ?_⟩
  obtain ⟨d, S1, h1, h⟩ := bnd_some h
  split at h
  · rename_i l _
    cases h
    refine .inr (.inl (i F φ S H σ env _ S' R E h1 _ fun φ1 H1 v e1 R1 r1 => ?_))
    unfold RV at r1
    obtain ⟨b, xs, g1, g2, g3⟩ := r1
    exact ⟨b, g1, ⟨xs, g2⟩, a φ1 H1 _ e1 R1 (walk_t g2 g3)⟩
  · cases h
    refine .inr (.inr (i F φ S H σ env _ S' R E h1 _ fun φ1 H1 v e1 R1 r1 => ?_))
    exact ⟨_, r1.str, a φ1 H1 _ e1 R1 walk_s⟩
  · cases e0 : froOf d with
    | none => rw [e0] at h; cases h
    | some l =>
      rw [e0] at h
      cases h
      refine .inl (i F φ S H σ env _ S' R E h1 _ fun φ1 H1 v e1 R1 r1 => ?_)
      obtain ⟨b, xs, g1, g2, g3, g4⟩ := fro_of e0 r1
      exact ⟨b, g1, ⟨xs, g3⟩, a φ1 H1 _ e1 R1 (walk_l g4 g2)⟩
theorem ii_rng1 (hg : Gl X "range") (hm : X.mg "range" = none) (ha : AI X [e] ms) (hs : starEach [e] X.env = [(false, eval e X.env)] := by rfl) : II X tg (.Call (.Name "range" p) [e] [] pos) (mRng1 ms) := by
  obtain ⟨t, p, i⟩ := ha
  refine ⟨_, pi_range1 hg hm p hs, fun F φ S H σ env ds S' R E h Q a => ?_⟩
  obtain ⟨d, S1, h1, h⟩ := bnd_some h
  split at h
  · split at h
    · rename_i hz
      cases h
      refine i F φ S H σ env _ S' R E h1 _ fun φ1 H1 vs e1 R1 r1 => ?_
      obtain ⟨v, ws, g1, g2, g3⟩ := r1.inv
      exact ⟨_, by rw [g1, g3.inv0, g2.int], hz.1, hz.2, a φ1 H1 _ e1 R1 walk_rng⟩
    · cases h
  · cases h
theorem ii_rng2 (hg : Gl X "range") (hm : X.mg "range" = none) (ha : AI X [e, e2] ms) (hs : starEach [e, e2] X.env = [(false, eval e X.env), (false, eval e2 X.env)] := by rfl) (hs2 : starEach [e2] X.env = [(false, eval e2 X.env)] := by rfl) :
    II X tg (.Call (.Name "range" p) [e, e2] [] pos) (mRng2 ms) := by
  obtain ⟨t, p, i⟩ := ha
  refine ⟨_, pi_range2 hg hm p hs hs2, fun F φ S H σ env ds S' R E h Q a => ?_⟩
  obtain ⟨d, S1, h1, h⟩ := bnd_some h
  split at h
  · split at h
    · rename_i hz
      cases h
      refine i F φ S H σ env _ S' R E h1 _ fun φ1 H1 vs e1 R1 r1 => ?_
      obtain ⟨v, ws, g1, g2, g3⟩ := r1.inv
      obtain ⟨v', ws', k1, k2, k3⟩ := g3.inv
      exact ⟨_, _, by rw [g1, k1, k3.inv0, g2.int, k2.int], hz, a φ1 H1 _ e1 R1 walk_rng⟩
    · cases h
  · cases h
theorem ii_enum {tpos : Pos} {elts : List Expr} {kk : Nat} (hg : Gl X "enumerate") (hm : X.mg "enumerate" = none) (ha : AI X [e] ms) (hs : starEach [e] X.env = [(false, eval e X.env)] := by rfl) :
    II X (.Tuple elts kk tpos) (.Call (.Name "enumerate" p) [e] [] pos) (mEnum ms) := by
  obtain ⟨t, p, i⟩ := ha
  refine ⟨_, pi_enum hg hm p hs, fun F φ S H σ env ds S' R E h0 Q a => ?_⟩
  obtain ⟨d, S1, h1, h⟩ := bnd_some h0
  clear h0
  split at h
  · rename_i d0
    cases e0 : froOf d0 with
    | none => rw [e0] at h; cases h
    | some l =>
      rw [e0] at h
      cases h
      refine i F φ S H σ env _ S' R E h1 _ fun φ1 H1 vs e1 R1 r1 => ?_
      obtain ⟨v, ws, g1, g2, g3⟩ := r1.inv
      obtain ⟨b, xs, k1, k2, k3, k4⟩ := fro_of e0 g2
      exact ⟨b, xs, by rw [g1, g3.inv0, k1], k3, a φ1 H1 _ e1 R1 (walk_e k4 k2)⟩
  · cases h
theorem ii_zip {tpos : Pos} {elts : List Expr} {kk : Nat} (hg : Gl X "zip") (hm : X.mg "zip" = none) (ha : AI X [e, e2] ms)
    (hs : starEach [e, e2] X.env = (false, eval e X.env) :: starEach [e2] X.env := by rfl) (hpl : (backTo pos (starEach [e2] X.env)).any (·.1) = false := by rfl) :
    II X (.Tuple elts kk tpos) (.Call (.Name "zip" p) [e, e2] [] pos) (mZip ms) := by
  obtain ⟨t, p, i⟩ := ha
  refine ⟨_, RZ.pi_zipA hg hm p hs hpl, fun F φ S H σ env ds S' R E h0 Q a => ?_⟩
  obtain ⟨d, S1, h1, h⟩ := bnd_some h0
  clear h0
  split at h
  · rename_i l k
    cases h
    refine i F φ S H σ env _ S' R E h1 _ fun φ1 H1 vs e1 R1 r1 => ?_
    obtain ⟨v, ws, g1, g2, g3⟩ := r1.inv
    obtain ⟨v', ws', k1, k2, k3⟩ := g3.inv
    unfold RV at g2 k2
    obtain ⟨b, xs, q1, q2, q3⟩ := g2
    obtain ⟨b', xs', q1', q2', q3'⟩ := k2
    exact ⟨b, b', xs, xs', by rw [g1, k1, k3.inv0, q1, q1'], .inr ⟨q2, q2', a φ1 H1 _ e1 R1 (walk_zt q2 q3 q2' q3')⟩⟩
  · rename_i d1 d2 _
    cases e0 : froOf d1 with
    | none => rw [e0] at h; cases h
    | some l =>
      rw [e0] at h
      simp only [Option.bind_some] at h
      cases e1 : froOf d2 with
      | none => rw [e1] at h; cases h
      | some k =>
        rw [e1] at h
        cases h
        refine i F φ S H σ env _ S' R E h1 _ fun φ1 H1 vs x1 R1 r1 => ?_
        obtain ⟨v, ws, g1, g2, g3⟩ := r1.inv
        obtain ⟨v', ws', k1, k2, k3⟩ := g3.inv
        obtain ⟨b, xs, q1, q2, q3, q4⟩ := fro_of e0 g2
        obtain ⟨b', xs', q1', q2', q3', q4'⟩ := fro_of e1 k2
        exact ⟨b, b', xs, xs', by rw [g1, k1, k3.inv0, q1, q1'], .inl ⟨q3, q3', a φ1 H1 _ x1 R1 (walk_z q4 q2 q4' q2')⟩⟩
  · cases h
end

/-! ### for -/
def forL (g : MG) (b : MS) : List Val → MS
  | [] => fun env S => some (.nx env, S)
  | x :: xs => fun env S => bnd (g x env S) fun env1 S1 => bnd (b env1 S1) fun o S2 => match o with
    | .nx e => forL g b xs e S2
    | .ct e => forL g b xs e S2
    | .bk e => some (.nx e, S2)
    | .rt d => some (.rt d, S2)
def mFor (mi : MA) (g : MG) (b : MS) : MS := fun env S => bnd (mi env S) fun items S1 => forL g b items env S1
theorem si_for {X : Cx} {tg iter : Expr} {body : List Stmt} {mi : MA} {ws : List Nat} {mg : MG} {mb : MS} {pos : Pos} (hp : PassesOwn (model X.prog X.w) X.A X.env X.xe) (hc : X.calm = true) (hi : II X tg iter mi) (hg : GI X ws tg mg) (hb : BI X body mb)
    (hs : ∀ x, foldedSetIterable iter X.env x = pure x := by intro _; rfl) : SI X (.For tg iter body [] pos) (mFor mi mg mb) := by
  obtain ⟨ti, pi, ii⟩ := hi
  obtain ⟨tg', pg, ig⟩ := hg
  obtain ⟨tb, pb, ib⟩ := hb
  refine ⟨_, ps_for hp hc pi pg pb hs, fun F φ S H σ env o S' R E h D a => ?_⟩
  obtain ⟨items, S1, h1, h⟩ := bnd_some h
  refine ii F φ S H σ env items S1 R E h1 _ fun φ1 H1 J x1 R1 Wk => ?_
  refine ⟨fun i k σ2 H2 => ∃ φ2 S2 env2, Ext φ1 H1 φ2 H2 ∧ Rp X.K F φ2 S2 H2 ∧ RE X.K F φ2 H2 env2 σ2 ∧ forL mg mb (items.drop i) env2 S2 = some (o, S') ∧ i ≤ items.length ∧ k = items.length - i,
    ⟨items.length, φ1, S1, env, Ext.refl, R1, E.mono x1, by rw [List.drop_zero]; exact h, Nat.zero_le _, by omega⟩, ?_⟩
  rintro i k σ2 H2 ⟨φ2, S2, env2, x2, R2, E2, h2, hi, rfl⟩
  obtain ⟨w1, w2, w3⟩ := Wk F φ2 S2 H2 (fun a ha => .inl ha) x2 R2
  by_cases hlt : i < items.length
  · refine .inr ⟨w1 i hlt, fun σ3 H3 => ∃ φ3 S3 env3, Ext φ1 H1 φ3 H3 ∧ Rp X.K F φ3 S3 H3 ∧ RE X.K F φ3 H3 env3 σ3 ∧ forL mg mb (items.drop (i + 1)) env3 S3 = some (o, S'), fun σ3 H3 ⟨φ3, S3, env3, q1, q2, q3, q4⟩ => ⟨items.length - (i + 1), by omega, φ3, S3, env3, q1, q2, q3, q4, hlt, rfl⟩, fun x H3 y => ?_⟩
    obtain ⟨d, hd, y1, y2, y3⟩ := w3 i x H3 hlt y
    have ed : items.drop i = d :: items.drop (i + 1) := by
      rw [List.drop_eq_getElem_cons hlt]
      rw [List.getElem?_eq_getElem hlt] at hd
      cases hd
      rfl
    rw [ed] at h2
    unfold forL at h2
    obtain ⟨env3, S3, h3, h2⟩ := bnd_some (r := (o, S')) h2
    obtain ⟨o4, S4, h4, h2⟩ := bnd_some (r := (o, S')) h2
    refine ig F φ2 S2 H3 σ2 env2 d x env3 S3 y2 (E2.mono y1) y3 h3 _ fun φ4 H4 σ4 x4 R4 E4 _ => ?_
    refine ib F φ4 S3 H4 σ4 env3 o4 S4 R4 E4 h4 _ ?_
    have xx := x2.trans (y1.trans x4)
    cases o4 with
    | nx e => exact fun φ5 H5 σ5 x5 R5 E5 => ⟨φ5, S4, e, xx.trans x5, R5, E5, h2⟩
    | ct e => exact fun φ5 H5 σ5 x5 R5 E5 => ⟨φ5, S4, e, xx.trans x5, R5, E5, h2⟩
    | bk e =>
      cases h2
      exact fun φ5 H5 σ5 x5 R5 E5 => a φ5 H5 σ5 (x1.trans (xx.trans x5)) R5 E5
    | rt d =>
      cases h2
      exact fun φ5 H5 v x5 R5 r5 => a φ5 H5 v (x1.trans (xx.trans x5)) R5 r5
  · have e : i = items.length := by omega
    subst e
    rw [List.drop_length] at h2
    cases h2
    exact .inl ⟨w2, a φ2 H2 σ2 (x1.trans x2) R2 E2⟩

/-! ### list comprehensions -/
def wipeE (env : VEnv) : List Nat → VEnv
  | [] => env
  | v :: vs => (wipeE env vs).set v none
theorem RE.wipe {K : Frg} {F φ : List Addr} {H : Hp} {env : VEnv} {σ : L2.St} (r : RE K F φ H env σ) : ∀ vs : List Nat, RE K F φ H (wipeE env vs) (wipe σ vs)
  | [] => r
  | v :: vs => by
    have ih := RE.wipe r vs
    unfold wipeE L2.wipe
    refine ⟨by rw [List.length_set, List.length_set]; exact ih.1, fun i d h => ?_⟩
    by_cases hi : v = i
    · subst hi
      by_cases hv : v < (wipeE env vs).length
      · rw [List.getElem?_set_self hv] at h
        cases h
      · rw [List.getElem?_eq_none (by rw [List.length_set]; omega)] at h
        cases h
    · rw [List.getElem?_set_ne hi] at h ⊢
      exact ih.2 i d h
theorem wipe_eq {σ σ' : L2.St} : ∀ (vs : List Nat), σ'.length = σ.length → (∀ i, i ∉ vs → σ'[i]? = σ[i]?) → L2.wipe σ' vs = L2.wipe σ vs := fun vs hl h => by
  apply List.ext_getElem?
  intro i
  by_cases hi : i ∈ vs
  · have at_ : ∀ (τ : L2.St) (us : List Nat), i ∈ us → (L2.wipe τ us)[i]? = if i < τ.length then some none else none := by
      intro τ us
      induction us with
      | nil => intro h; cases h
      | cons u us ih =>
        intro hm
        unfold L2.wipe
        by_cases hu : u = i
        · subst hu
          by_cases hz : u < τ.length
          · rw [List.getElem?_set_self (by rw [wipe_length]; exact hz), if_pos hz]
          · rw [if_neg hz, List.getElem?_eq_none (by rw [List.length_set, wipe_length]; omega)]
        · rw [List.getElem?_set_ne hu]
          exact ih ((List.mem_cons.mp hm).resolve_left fun z => hu z.symm)
    rw [at_ σ' vs hi, at_ σ vs hi, hl]
  · rw [wipe_out hi, wipe_out hi]
    exact h i hi
/-- the items of a comprehension: each in the slots as they were, its own names forgotten -/
def lcL (g : MG) (t : MT) (m : ME) (env : VEnv) : List Val → Store → Option (List Val × Store)
  | [], S => some ([], S)
  | x :: xs, S => bnd (g x env S) fun env1 S1 => bnd (t env1 S1) fun b S2 =>
    if b = true then bnd (m env1 S2) fun d S3 => bnd (lcL g t m env xs S3) fun ds S4 => some (d :: ds, S4) else lcL g t m env xs S2
def mLc (c : Bool) (vs : List Nat) (mi : MA) (g : MG) (t : MT) (m : ME) : ME := fun env S => bnd (mi env S) fun items S1 => bnd (lcL g t m (wipeE env vs) items S1) fun ds S2 => if ds.length ≤ sizeLine then some (mk c ds S2) else none
theorem im_lc {K : Frg} (c : Bool) {vs ws : List Nat} {ti : L2.TI} {mi : MA} {g : TG} {mg : MG} {t : TT} {mt : MT} {te : TE} {me : ME} (ii : ImI K ti mi) (ig : ImG K ws g mg) (it : ImT K t mt) (ie : Im K te me) (hw : ∀ i ∈ ws, i ∈ vs) :
    Im K (tLc ti g t te vs) (mLc c vs mi mg mt me) := fun F φ S H σ env d S' R E h Q a => by
  obtain ⟨items, S1, h1, h⟩ := bnd_some h
  obtain ⟨ds, S2, h2, h⟩ := bnd_some h
  split at h
  · rename_i hz
    have h' : mk c ds S2 = (d, S') := Option.some.inj h
    refine ii F φ S H σ env items S1 R E h1 _ fun φ1 H1 J x1 R1 Wk => ?_
    intro D hD
    have E1 := E.mono x1
    have hf : ∀ a ∈ D :: F, a ∈ F ∨ H1 a = none := fun a ha => by
      rcases List.mem_cons.mp ha with rfl | ha
      · exact .inr hD
      · exact .inl ha
    -- the list at D is nobody's
    refine ⟨fun i k H2 => ∃ φ2 S3 acc rest xs, Ext φ1 H1 φ2 H2 ∧ Rp K (D :: F) φ2 S3 H2 ∧ lcL mg mt me (wipeE env vs) (items.drop i) S3 = some (rest, S2) ∧ acc ++ rest = ds ∧ RVs K (D :: F) φ2 H2 acc xs ∧ H2 D = some (.lst xs) ∧ i ≤ items.length ∧ k = items.length - i,
      ⟨items.length, φ1, S1, [], ds, [], ?_, ?_, ?_, rfl, .nil, upd_same, Nat.zero_le _, by omega⟩, ?_⟩
    · exact Ext.new hD
    · have R2 := R1.new (o := .lst []) hD
      refine ⟨R2.len, R2.nd, fun i c q => ?_, fun b hb => ?_⟩
      · obtain ⟨b, q1, q2⟩ := R2.cells i c q
        refine ⟨b, q1, ?_⟩
        have hf2 : ∀ a ∈ D :: F, a ∈ F ∨ H1 a = none := hf
        obtain ⟨b0, z1, z2⟩ := R1.cells i c q
        rw [z1] at q1
        cases q1
        have mono : ∀ l xs, RVs K F φ1 H1 l xs → RVs K (D :: F) φ1 (upd H1 D (.lst [])) l xs := fun l xs r => RVs.mono (Ext.new hD) _ _ (RVs.more hf _ _ r)
        have nb : b ≠ D := by
          obtain ⟨u, z3⟩ := z2.there
          exact ne_of_none z3 hD
        cases c with
        | lst l =>
          obtain ⟨xs, z3, z4⟩ := z2
          exact ⟨xs, by rw [upd_ne nb]; exact z3, mono _ _ z4⟩
        | ins C ks vs =>
          obtain ⟨dx, gs, z3, z5, z4⟩ := z2
          exact ⟨dx, gs, by rw [upd_ne nb]; exact z3, z5, mono _ _ z4⟩
      · rcases List.mem_cons.mp hb with rfl | hb
        · exact ⟨R1.fresh hD, _, upd_same⟩
        · exact R2.forb b hb
    · rw [List.drop_zero]
      exact h2
    · rintro i k H2 ⟨φ2, S3, acc, rest, xs, x2, R2, q1, q2, q3, q4, hi, rfl⟩
      have lenX : xs.length = acc.length := q3.length
      obtain ⟨w1, w2, w3⟩ := Wk (D :: F) φ2 S3 H2 hf x2 R2
      have nD : D ∉ φ2 := (R2.forb D List.mem_cons_self).1
      by_cases hlt : i < items.length
      · have ed0 : items.drop i = items[i] :: items.drop (i + 1) := List.drop_eq_getElem_cons hlt
        refine .inr ⟨w1 i hlt, fun H3 => ∃ φ3 S4 acc3 rest3 xs3, Ext φ1 H1 φ3 H3 ∧ Rp K (D :: F) φ3 S4 H3 ∧ lcL mg mt me (wipeE env vs) (items.drop (i + 1)) S4 = some (rest3, S2) ∧ acc3 ++ rest3 = ds ∧ RVs K (D :: F) φ3 H3 acc3 xs3 ∧ H3 D = some (.lst xs3),
          fun H3 ⟨φ3, S4, acc3, rest3, xs3, z1, z2, z3, z4, z5, z6⟩ => ⟨items.length - (i + 1), by omega, φ3, S4, acc3, rest3, xs3, z1, z2, z3, z4, z5, z6, hlt, rfl⟩, fun x H3 y => ?_⟩
        obtain ⟨d0, hd, y1, y2, y3⟩ := w3 i x H3 hlt y
        rw [List.getElem?_eq_getElem hlt] at hd
        cases hd
        rw [ed0] at q1
        unfold lcL at q1
        obtain ⟨env4, S4, h4, q1⟩ := bnd_some (r := (rest, S2)) q1
        obtain ⟨b, S5, h5, q1⟩ := bnd_some (r := (rest, S2)) q1
        have E2 : RE K (D :: F) φ2 H3 (wipeE env vs) (L2.wipe σ vs) := ((E1.more hf).mono (x2.trans y1)).wipe vs
        refine ig (D :: F) φ2 S3 H3 (L2.wipe σ vs) (wipeE env vs) items[i] x env4 S4 y2 E2 y3 h4 _ fun φ4 H4 σ4 x4 R4 E4 k4 => ?_
        have xx4 := x2.trans (y1.trans x4)
        have xD4 := y1.trans x4
        have hwipe : L2.wipe σ4 vs = L2.wipe σ vs :=
          (wipe_eq vs k4.1 fun j hj => k4.2 j fun hm => hj (hw j hm)).trans (wipe_eq vs (wipe_length σ vs) fun j hj => wipe_out hj)
        refine ⟨hwipe, it (D :: F) φ4 S4 H4 σ4 env4 b S5 R4 E4 h5 _ fun φ5 H5 x5 R5 => ?_⟩
        cases b with
        | false =>
          rw [if_neg Bool.false_ne_true] at q1 ⊢
          exact ⟨φ5, S5, acc, rest, xs, xx4.trans x5, R5, q1, q2, RVs.mono (xD4.trans x5) _ _ q3, (xD4.trans x5).old _ _ q4 nD⟩
        | true =>
          rw [if_pos rfl] at q1 ⊢
          obtain ⟨d6, S6, h6, q1⟩ := bnd_some (r := (rest, S2)) q1
          obtain ⟨ds7, S7, h7, q1⟩ := bnd_some (r := (rest, S2)) q1
          cases q1
          refine ie (D :: F) φ5 S5 H5 σ4 env4 d6 S6 R5 (E4.mono x5) h6 _ fun φ6 H6 v6 x6 R6 r6 => ?_
          have xD6 := (xD4.trans x5).trans x6
          have g6 : H6 D = some (.lst xs) := xD6.old _ _ q4 nD
          have n6 : D ∉ φ6 := (R6.forb D List.mem_cons_self).1
          have r3 := RVs.mono xD6 _ _ q3
          refine ⟨xs, g6, ?_, φ6, S6, acc ++ [d6], ds7, xs ++ [v6], ?_, ?_, h7, by rw [List.append_assoc]; exact q2, ?_, upd_same⟩
          · rw [lenX]
            have : acc.length + (ds7.length + 1) = ds.length := by rw [← q2, List.length_append, List.length_cons]
            omega
          · have e6 := (xx4.trans x5).trans x6
            refine ⟨e6.pre, fun a o q n => ?_, fun a o q => ?_, fun a ys q => ?_, fun a o u q => ?_⟩
            · rw [upd_ne (ne_of_none q hD)]
              exact e6.old a o q n
            · obtain ⟨o', z⟩ := e6.there a o q
              exact ⟨o', by rw [upd_ne (ne_of_none q hD)]; exact z⟩
            · rw [upd_ne (ne_of_none q hD)]
              exact e6.tup a ys q
            · rw [upd_ne (ne_of_none q hD)]
              exact e6.frz a o u q
          · refine ⟨R6.len, R6.nd, fun j c q => ?_, fun b hb => ?_⟩
            · obtain ⟨b, z1, z2⟩ := R6.cells j c q
              have nb : b ≠ D := fun z => n6 (z ▸ List.mem_of_getElem? z1)
              refine ⟨b, z1, ?_⟩
              cases c with
              | lst l =>
                obtain ⟨ys, z3, z4⟩ := z2
                exact ⟨ys, by rw [upd_ne nb]; exact z3, RVs.upd List.mem_cons_self g6 _ _ z4⟩
              | ins C ks us =>
                obtain ⟨dx, gs, z3, z5, z4⟩ := z2
                exact ⟨dx, gs, by rw [upd_ne nb]; exact z3, z5, RVs.upd List.mem_cons_self g6 _ _ z4⟩
            · obtain ⟨z1, u, z2⟩ := R6.forb b hb
              by_cases hb2 : b = D
              · subst hb2
                exact ⟨z1, _, upd_same⟩
              · exact ⟨z1, u, by rw [upd_ne hb2]; exact z2⟩
          · exact RVs.upd List.mem_cons_self g6 _ _ (r3.append (.cons r6 .nil))
      · have e : i = items.length := by omega
        subst e
        rw [List.drop_length] at q1
        cases q1
        rw [List.append_nil] at q2
        subst q2
        refine .inl ⟨w2, ?_⟩
        have nF : D ∉ F := fun hm => by
          obtain ⟨_, o, q⟩ := R1.forb D hm
          rw [hD] at q
          cases q
        have back : ∀ l ys, RVs K (D :: F) φ2 H2 l ys → RVs K F (φ2 ++ []) H2 l ys := fun l ys r => RVs.adopt (D := D) (fun a ha => by cases ha) (fun a ha => List.mem_cons_of_mem _ ha) _ _ r
        have adopt : ∀ l ys, RVs K (D :: F) φ2 H2 l ys → RVs K F (φ2 ++ [D]) H2 l ys := fun l ys r => RVs.adopt (D := D) (fun a ha => by rw [List.mem_singleton.mp ha]; exact List.mem_cons_self) (fun a ha => List.mem_cons_of_mem _ ha) _ _ r
        cases c with
        | false =>
          cases h'
          refine a φ2 H2 _ (x1.trans x2) ⟨R2.len, R2.nd, fun j c q => ?_, fun b hb => R2.forb b (List.mem_cons_of_mem _ hb)⟩ ?_
          · obtain ⟨b, z1, z2⟩ := R2.cells j c q
            refine ⟨b, z1, ?_⟩
            cases c with
            | lst l =>
              obtain ⟨ys, z3, z4⟩ := z2
              exact ⟨ys, z3, by simpa using back _ _ z4⟩
            | ins C ks us =>
              obtain ⟨dx, gs, z3, z5, z4⟩ := z2
              exact ⟨dx, gs, z3, z5, by simpa using back _ _ z4⟩
          · unfold RV
            exact ⟨D, xs, rfl, nD, nF, q4, by simpa using back _ _ q3⟩
        | true =>
          cases h'
          refine a (φ2 ++ [D]) H2 _ (x1.trans ⟨?_, x2.old, x2.there, x2.tup, x2.frz⟩) ⟨by simp [R2.len], ?_, fun j c q => ?_, fun b hb => ?_⟩ ?_
          · obtain ⟨ψ, z1, z2⟩ := x2.pre
            exact ⟨ψ ++ [D], by rw [z1, List.append_assoc], fun b hb => by
              rcases List.mem_append.mp hb with hb | hb
              · exact z2 b hb
              · rw [List.mem_singleton.mp hb]
                exact hD⟩
          · rw [List.nodup_append]
            refine ⟨R2.nd, by simp, fun b hb b2 hb2 => ?_⟩
            rw [List.mem_singleton.mp hb2]
            exact fun z => nD (z ▸ hb)
          · by_cases hj : j < S2.length
            · rw [List.getElem?_append_left hj] at q
              obtain ⟨b, z1, z2⟩ := R2.cells j c q
              refine ⟨b, by rw [List.getElem?_append_left (List.getElem?_eq_some_iff.mp z1).1]; exact z1, ?_⟩
              cases c with
              | lst l =>
                obtain ⟨ys, z3, z4⟩ := z2
                exact ⟨ys, z3, adopt _ _ z4⟩
              | ins C ks us =>
                obtain ⟨dx, gs, z3, z5, z4⟩ := z2
                exact ⟨dx, gs, z3, z5, adopt _ _ z4⟩
            · have hl2 : j < (S2 ++ [Cell.lst acc]).length := (List.getElem?_eq_some_iff.mp q).1
              rw [List.length_append, List.length_singleton] at hl2
              have ej : j = S2.length := by omega
              subst ej
              rw [List.getElem?_append_right (Nat.le_refl _)] at q
              simp at q
              subst q
              refine ⟨D, ?_, xs, q4, adopt _ _ q3⟩
              rw [← R2.len, List.getElem?_append_right (Nat.le_refl _)]
              simp
          · obtain ⟨z1, u, z2⟩ := R2.forb b (List.mem_cons_of_mem _ hb)
            refine ⟨fun hm => ?_, u, z2⟩
            rcases List.mem_append.mp hm with hm | hm
            · exact z1 hm
            · rw [List.mem_singleton.mp hm] at hb
              exact nF hb
          · unfold RV
            refine ⟨D, rfl, ?_⟩
            rw [← R2.len, List.getElem?_append_right (Nat.le_refl _)]
            simp
  · cases h
end Fx
/-! Comprehensions as expressions; defs, calls; the law's end. -/
namespace Fx
open PySem PySem.Spec PyProof.Rows L2

/-! ### comprehensions in the text -/
section
variable {X : Cx}
theorem ei_lc (c : Bool) {elt tg iter : Expr} {ifs : List Expr} {scope : Scope} {own : List (Str × Nat)} {pos : Pos} {mi : MA} {ws : List Nat} {mg : MG} {mt : MT} {me : ME} (hc : X.calm = true) (hN : X.N.Nodup) (hi : II X tg iter mi) (ok : BlkOk X.N X.env.scope scope own)
    (hg : ∀ (s : Shared) (H : Hp) (C : Addr) (cl : List (Str × Addr)) (fp : List Addr), GI (X.blk s H scope (compEnvC scope cl C X.env) fp) ws tg mg)
    (ht : ∀ (s : Shared) (H : Hp) (C : Addr) (cl : List (Str × Addr)) (fp : List Addr), TsI (X.blk s H scope (compEnvC scope cl C X.env) fp) ifs mt)
    (he : ∀ (s : Shared) (H : Hp) (C : Addr) (cl : List (Str × Addr)) (fp : List Addr), EI (X.blk s H scope (compEnvC scope cl C X.env) fp) elt me) (hw : ∀ i ∈ ws, i ∈ own.map (·.2)) (hs : ∀ x, foldedSetIterable iter X.env x = pure x := by intro _; rfl) :
    EI X (.ListComp elt [⟨tg, iter, ifs, 0⟩] scope pos) (mLc c (own.map (·.2)) mi mg mt me) := by
  obtain ⟨ti, pi, ii⟩ := hi
  exact ⟨_, pe_lc hc hN pi ok (fun s H C cl fp => (hg s H C cl fp).can) (fun s H C cl fp => (ht s H C cl fp).can) (fun s H C cl fp => (he s H C cl fp).can) hs, im_lc c ii imG_can imT_can im_can hw⟩
theorem si_setLc (c : Bool) {i : Nat} {y : Str} {py : Pos} {elt tg iter : Expr} {ifs : List Expr} {scope : Scope} {own : List (Str × Nat)} {pos spos : Pos} {mi : MA} {ws : List Nat} {mg : MG} {mt : MT} {me : ME} (hc : X.calm = true) (hN : X.N.Nodup) (hy : X.N[i]? = some y) (hyl : X.env.scope.names.lookup y = some .local)
    (hsw : swapsWith (.ListComp elt [⟨tg, iter, ifs, 0⟩] scope pos) (some (.Name y py)) spos.line X.env = pure true) (hi : II X tg iter mi) (ok : BlkOk X.N X.env.scope scope own)
    (hg : ∀ (s : Shared) (H : Hp) (C : Addr) (cl : List (Str × Addr)) (fp : List Addr), GI (X.blk s H scope (compEnvC scope cl C X.env) fp) ws tg mg)
    (ht : ∀ (s : Shared) (H : Hp) (C : Addr) (cl : List (Str × Addr)) (fp : List Addr), TsI (X.blk s H scope (compEnvC scope cl C X.env) fp) ifs mt)
    (he : ∀ (s : Shared) (H : Hp) (C : Addr) (cl : List (Str × Addr)) (fp : List Addr), EI (X.blk s H scope (compEnvC scope cl C X.env) fp) elt me) (hw : ∀ i ∈ ws, i ∈ own.map (·.2)) (hs : ∀ x, foldedSetIterable iter X.env x = pure x := by intro _; rfl) :
    SI X (.Assign [.Name y py] (.ListComp elt [⟨tg, iter, ifs, 0⟩] scope pos) spos) (mSet (mLc c (own.map (·.2)) mi mg mt me) (gN i)) := by
  obtain ⟨ti, pi, ii⟩ := hi
  exact ⟨_, ps_setLc hc hN hy hyl hsw pi ok (fun s H C cl fp => (hg s H C cl fp).can) (fun s H C cl fp => (ht s H C cl fp).can) (fun s H C cl fp => (he s H C cl fp).can) hs, im_set (im_lc c ii imG_can imT_can im_can hw) im_gn⟩
/-! ### truth of any value -/
def truD (S : Store) : Val → Option Bool
  | .non => some false
  | .bl b => some b
  | .int i => some (i != 0)
  | .str z => if z.length ≤ sizeLine then some (z.length != 0) else none
  | .tup l => some (!l.isEmpty)
  | d => (lstOf S d).map fun l => !l.isEmpty
end

/-! ### what a def leaves behind -/
mutual
def refLt (n : Nat) : Val → Bool
  | .ref i => decide (i < n)
  | .tup l => refLtL n l
  | .fro l => refLtL n l
  | .scr l => refLtL n l
  | .obj _ _ vs => refLtL n vs
  | _ => true
def refLtL (n : Nat) : List Val → Bool
  | [] => true
  | d :: ds => refLt n d && refLtL n ds
end
def refLtC (n : Nat) : Cell → Bool
  | .lst l => refLtL n l
  | .ins _ _ vs => refLtL n vs
def Wf (S : Store) : Prop := ∀ (i : Nat) c, S[i]? = some c → refLtC S.length c = true
section
variable {K : Frg} {F φ : List Addr} {H : Hp}
mutual
theorem refLt_of : ∀ (d : Val) (v : V), RV K F φ H d v → refLt φ.length d = true
  | .non, v, h => by unfold refLt; rfl
  | .bl b, v, h => by unfold refLt; rfl
  | .int i, v, h => by unfold refLt; rfl
  | .str x, v, h => by unfold refLt; rfl
  | .raw w, v, h => by unfold refLt; rfl
  | .tup l, v, h => by
    unfold RV at h
    unfold refLt
    obtain ⟨a, xs, _, _, h3⟩ := h
    exact refLt_ofL l xs h3
  | .fro l, v, h => by
    unfold RV at h
    unfold refLt
    obtain ⟨a, xs, _, _, _, _, h3⟩ := h
    exact refLt_ofL l xs h3
  | .scr l, v, h => by
    unfold RV at h
    unfold refLt
    obtain ⟨a, xs, _, _, h3⟩ := h
    exact refLt_ofL l xs h3
  | .ref i, v, h => by
    unfold RV at h
    unfold refLt
    obtain ⟨a, _, h2⟩ := h
    exact decide_eq_true (List.getElem?_eq_some_iff.mp h2).1
  | .obj C ks vs, v, h => by
    unfold RV at h
    unfold refLt
    obtain ⟨a, dx, gs, _, _, _, _, _, h3⟩ := h
    exact refLt_ofL vs _ h3
theorem refLt_ofL : ∀ (ds : List Val) (vs : List V), RVs K F φ H ds vs → refLtL φ.length ds = true
  | [], vs, h => by unfold refLtL; rfl
  | d :: ds, vs, h => by
    obtain ⟨v, ws, _, h2, h3⟩ := h.inv
    unfold refLtL
    rw [refLt_of d v h2, refLt_ofL ds ws h3]
    rfl
end
theorem Rp.wf {S : Store} (R : Rp K F φ S H) : Wf S := fun i c q => by
  obtain ⟨a, _, h⟩ := R.cells i c q
  rw [← R.len]
  cases c with
  | lst l => obtain ⟨xs, _, h2⟩ := h; exact refLt_ofL _ _ h2
  | ins C ks vs => obtain ⟨dx, gs, _, _, h2⟩ := h; exact refLt_ofL _ _ h2
end
def mapO {α β : Type} (f : α → Option β) : List α → Option (List β)
  | [] => some []
  | x :: xs => (f x).bind fun y => (mapO f xs).map fun ys => y :: ys
/-- the cells from n on become values -/
def frz (S : Store) (n : Nat) : Nat → Val → Option Val
  | 0, _ => none
  | k + 1, d => if refLt n d = true then some d else match d with
    | .ref i => match S[i]? with
      | some (.lst l) => (mapO (frz S n k) l).map .fro
      | some (.ins C ks vs) => (mapO (frz S n k) vs).map fun ws => .obj C ks ws
      | none => none
    | .tup l => (mapO (frz S n k) l).map .tup
    | .fro l => (mapO (frz S n k) l).map .fro
    | .scr l => (mapO (frz S n k) l).map .scr
    | .obj C ks vs => (mapO (frz S n k) vs).map fun ws => .obj C ks ws
    | d => some d
def frzC (S : Store) (n k : Nat) : Cell → Option Cell
  | .lst l => (mapO (frz S n k) l).map .lst
  | .ins C ks vs => (mapO (frz S n k) vs).map fun ws => .ins C ks ws
/-- d0 with the store S0, given out as d with S': only n cells are left -/
def Fin (n k : Nat) (d0 : Val) (S0 : Store) (d : Val) (S' : Store) : Prop := n ≤ S0.length ∧ frz S0 n k d0 = some d ∧ mapO (frzC S0 n k) (S0.take n) = some S'
section
variable {K : Frg} {F φ : List Addr} {H : Hp} {S : Store} {n : Nat}
mutual
theorem RV.cut : ∀ (d : Val) (v : V), refLt n d = true → RV K F φ H d v → RV K F (φ.take n) H d v
  | .non, v, _, h => by unfold RV at h ⊢; exact h
  | .bl b, v, _, h => by unfold RV at h ⊢; exact h
  | .int i, v, _, h => by unfold RV at h ⊢; exact h
  | .str x, v, _, h => by unfold RV at h ⊢; exact h
  | .raw w, v, _, h => by unfold RV at h ⊢; exact h
  | .tup l, v, q, h => by
    unfold refLt at q
    unfold RV at h ⊢
    obtain ⟨a, xs, h1, h2, h3⟩ := h
    exact ⟨a, xs, h1, h2, RVs.cut l xs q h3⟩
  | .fro l, v, q, h => by
    unfold refLt at q
    unfold RV at h ⊢
    obtain ⟨a, xs, h1, h2, h4, h5, h3⟩ := h
    exact ⟨a, xs, h1, fun z => h2 (List.mem_of_mem_take z), h4, h5, RVs.cut l xs q h3⟩
  | .scr l, v, q, h => by
    unfold refLt at q
    unfold RV at h ⊢
    obtain ⟨a, xs, h1, h2, h3⟩ := h
    exact ⟨a, xs, h1, h2, RVs.cut l xs q h3⟩
  | .ref i, v, q, h => by
    unfold refLt at q
    unfold RV at h ⊢
    obtain ⟨a, h1, h2⟩ := h
    exact ⟨a, h1, by rw [List.getElem?_take_of_lt (of_decide_eq_true q)]; exact h2⟩
  | .obj C ks vs, v, q, h => by
    unfold refLt at q
    unfold RV at h ⊢
    obtain ⟨a, dx, gs, h1, h2, h4, h5, h6, h3⟩ := h
    exact ⟨a, dx, gs, h1, fun z => h2 (List.mem_of_mem_take z), h4, h5, h6, RVs.cut vs _ q h3⟩
theorem RVs.cut : ∀ (ds : List Val) (vs : List V), refLtL n ds = true → RVs K F φ H ds vs → RVs K F (φ.take n) H ds vs
  | [], vs, _, h => by unfold RVs at h ⊢; exact h
  | d :: ds, vs, q, h => by
    unfold refLtL at q
    rw [Bool.and_eq_true] at q
    unfold RVs at h ⊢
    obtain ⟨v, ws, h1, h2, h3⟩ := h
    exact ⟨v, ws, h1, RV.cut d v q.1 h2, RVs.cut ds ws q.2 h3⟩
end
theorem RVs.frz_of {f : Val → Option Val} (hf : ∀ d d' v, f d = some d' → RV K F φ H d v → RV K F (φ.take n) H d' v) : ∀ {ds ds' : List Val} {vs : List V}, mapO f ds = some ds' → RVs K F φ H ds vs → RVs K F (φ.take n) H ds' vs
  | [], ds', vs, e, r => by
    unfold mapO at e
    cases e
    rw [r.inv0]
    exact .nil
  | d :: ds, ds', vs, e, r => by
    unfold mapO at e
    obtain ⟨v, ws, h1, h2, h3⟩ := r.inv
    cases q : f d with
    | none => rw [q] at e; cases e
    | some y =>
      rw [q] at e
      simp only [Option.bind_some] at e
      cases q2 : mapO f ds with
      | none => rw [q2] at e; cases e
      | some ys =>
        rw [q2] at e
        cases e
        rw [h1]
        exact .cons (hf _ _ _ q h2) (RVs.frz_of hf q2 h3)
theorem RV.frz (R : Rp K F φ S H) : ∀ (k : Nat) (d d' : Val) (v : V), Fx.frz S n k d = some d' → RV K F φ H d v → RV K F (φ.take n) H d' v
  | 0, d, d', v, e, _ => by cases e
  | k + 1, d, d', v, e, r => by
    unfold Fx.frz at e
    split at e
    · rename_i q
      cases e
      exact RV.cut d v q r
    · rename_i q
      have ih : ∀ d d' v, Fx.frz S n k d = some d' → RV K F φ H d v → RV K F (φ.take n) H d' v := RV.frz R k
      have rest : ∀ {l : List Val} {g : List Val → Val}, (mapO (Fx.frz S n k) l).map g = some d' → ∃ l', mapO (Fx.frz S n k) l = some l' ∧ d' = g l' := fun {l g} e => by
        cases q : mapO (Fx.frz S n k) l with
        | none => rw [q] at e; cases e
        | some l' =>
          rw [q] at e
          cases e
          exact ⟨l', rfl, rfl⟩
      split at e
      · rename_i i
        have hi : ¬ i < n := fun z => q (by unfold refLt; exact decide_eq_true z)
        unfold RV at r
        obtain ⟨a, h1, h2⟩ := r
        have na : a ∉ φ.take n := fun hm => by
          obtain ⟨j, hj, ej⟩ := List.getElem_of_mem hm
          have hj2 : j < n := by rw [List.length_take] at hj; omega
          rw [List.getElem_take] at ej
          have : φ[j]? = some a := by rw [List.getElem?_eq_getElem (by rw [List.length_take] at hj; omega), ej]
          have := R.inj this h2
          omega
        have nF : a ∉ F := fun hm => (R.forb a hm).1 (List.mem_of_getElem? h2)
        split at e
        · rename_i l hl
          obtain ⟨l', e1, rfl⟩ := rest e
          obtain ⟨xs, g1, g2⟩ := R.lst h2 hl
          unfold RV
          exact ⟨a, xs, h1, na, nF, g1, RVs.frz_of ih e1 g2⟩
        · rename_i C ks vs hl
          obtain ⟨l', e1, rfl⟩ := rest e
          obtain ⟨b, e2, dx, gs, g1, g2, g3⟩ := R.cells i _ hl
          rw [h2] at e2
          cases e2
          unfold RV
          exact ⟨a, dx, gs, h1, na, nF, g1, g2, RVs.frz_of ih e1 g3⟩
        · cases e
      · rename_i l
        obtain ⟨l', e1, rfl⟩ := rest e
        unfold RV at r ⊢
        obtain ⟨a, xs, h1, h2, h3⟩ := r
        exact ⟨a, xs, h1, h2, RVs.frz_of ih e1 h3⟩
      · rename_i l
        obtain ⟨l', e1, rfl⟩ := rest e
        unfold RV at r ⊢
        obtain ⟨a, xs, h1, h2, h4, h5, h3⟩ := r
        exact ⟨a, xs, h1, fun z => h2 (List.mem_of_mem_take z), h4, h5, RVs.frz_of ih e1 h3⟩
      · rename_i l
        obtain ⟨l', e1, rfl⟩ := rest e
        unfold RV at r ⊢
        obtain ⟨a, xs, h1, h2, h3⟩ := r
        exact ⟨a, xs, h1, h2, RVs.frz_of ih e1 h3⟩
      · rename_i C ks vs
        obtain ⟨l', e1, rfl⟩ := rest e
        unfold RV at r ⊢
        obtain ⟨a, dx, gs, h1, h2, h4, h5, h6, h3⟩ := r
        exact ⟨a, dx, gs, h1, fun z => h2 (List.mem_of_mem_take z), h4, h5, h6, RVs.frz_of ih e1 h3⟩
      · cases e
        rename_i n1 n2 n3 n4 n5
        cases d with
        | ref i => exact (n1 i rfl).elim
        | tup l => exact (n2 l rfl).elim
        | fro l => exact (n3 l rfl).elim
        | scr l => exact (n4 l rfl).elim
        | obj C ks vs => exact (n5 C ks vs rfl).elim
        | non => unfold RV at r ⊢; exact r
        | bl _ => unfold RV at r ⊢; exact r
        | int _ => unfold RV at r ⊢; exact r
        | str _ => unfold RV at r ⊢; exact r
        | raw _ => unfold RV at r ⊢; exact r
theorem mapO_get {α β : Type} {f : α → Option β} : ∀ {l : List α} {l' : List β} {i : Nat} {y : β}, mapO f l = some l' → l'[i]? = some y → ∃ x, l[i]? = some x ∧ f x = some y
  | [], l', i, y, e, h => by
    unfold mapO at e
    cases e
    simp at h
  | x :: l, l', i, y, e, h => by
    unfold mapO at e
    cases q : f x with
    | none => rw [q] at e; cases e
    | some z =>
      rw [q] at e
      simp only [Option.bind_some] at e
      cases q2 : mapO f l with
      | none => rw [q2] at e; cases e
      | some zs =>
        rw [q2] at e
        cases e
        cases i with
        | zero =>
          simp at h
          subst h
          exact ⟨x, rfl, q⟩
        | succ i =>
          obtain ⟨w, h1, h2⟩ := mapO_get q2 (by simpa using h)
          exact ⟨w, by simpa using h1, h2⟩
theorem mapO_len {α β : Type} {f : α → Option β} : ∀ {l : List α} {l' : List β}, mapO f l = some l' → l'.length = l.length
  | [], l', e => by
    unfold mapO at e
    cases e
    rfl
  | x :: l, l', e => by
    unfold mapO at e
    cases q : f x with
    | none => rw [q] at e; cases e
    | some z =>
      rw [q] at e
      simp only [Option.bind_some] at e
      cases q2 : mapO f l with
      | none => rw [q2] at e; cases e
      | some zs =>
        rw [q2] at e
        cases e
        rw [List.length_cons, List.length_cons, mapO_len q2]
theorem Rp.fin (R : Rp K F φ S H) {k : Nat} {S' : Store} (hn : n ≤ S.length) (e : mapO (frzC S n k) (S.take n) = some S') : Rp K F (φ.take n) S' H := by
  have hl := mapO_len e
  rw [List.length_take] at hl
  refine ⟨by rw [List.length_take, R.len, hl], R.nd.sublist (List.take_sublist _ _), fun i c q => ?_, fun a ha => ⟨fun z => (R.forb a ha).1 (List.mem_of_mem_take z), (R.forb a ha).2⟩⟩
  obtain ⟨c0, h1, h2⟩ := mapO_get e q
  have hi : i < n := by
    have := (List.getElem?_eq_some_iff.mp q).1
    omega
  rw [List.getElem?_take_of_lt hi] at h1
  obtain ⟨a, g1, g2⟩ := R.cells i c0 h1
  refine ⟨a, by rw [List.getElem?_take_of_lt hi]; exact g1, ?_⟩
  cases c0 with
  | lst l =>
    have h2 : (mapO (frz S n k) l).map Cell.lst = some c := h2
    cases q2 : mapO (frz S n k) l with
    | none => rw [q2] at h2; cases h2
    | some l' =>
      rw [q2] at h2
      cases h2
      obtain ⟨xs, k1, k2⟩ := g2
      exact ⟨xs, k1, RVs.frz_of (RV.frz R k) q2 k2⟩
  | ins C ks vs =>
    have h2 : (mapO (frz S n k) vs).map (fun ws => Cell.ins C ks ws) = some c := h2
    cases q2 : mapO (frz S n k) vs with
    | none => rw [q2] at h2; cases h2
    | some l' =>
      rw [q2] at h2
      cases h2
      obtain ⟨dx, gs, k1, k3, k2⟩ := g2
      exact ⟨dx, gs, k1, k3, RVs.frz_of (RV.frz R k) q2 k2⟩
theorem Ext.fin {φ' : List Addr} {H' : Hp} (e : Ext φ H φ' H') (hn : φ.length ≤ n) : Ext φ H (φ'.take n) H' := by
  obtain ⟨ψ, e1, e2⟩ := e.pre
  refine ⟨⟨ψ.take (n - φ.length), ?_, fun a ha => e2 a (List.mem_of_mem_take ha)⟩, e.old, e.there, e.tup, e.frz⟩
  rw [e1, List.take_append, List.take_of_length_le hn]
/-- nothing new is handed out -/
theorem refLtL_all {n : Nat} : ∀ {l : List Val}, refLtL n l = true → ∀ d ∈ l, refLt n d = true
  | [], _, d, hd => by cases hd
  | x :: l, h, d, hd => by
    unfold refLtL at h
    rw [Bool.and_eq_true] at h
    rcases List.mem_cons.mp hd with rfl | hd
    · exact h.1
    · exact refLtL_all h.2 d hd
theorem mapO_id {α : Type} {f : α → Option α} : ∀ {l : List α}, (∀ d ∈ l, f d = some d) → mapO f l = some l
  | [], _ => rfl
  | x :: l, h => by
    unfold mapO
    rw [h x List.mem_cons_self, mapO_id fun d hd => h d (List.mem_cons_of_mem _ hd)]
    rfl
theorem frz_id {S0 : Store} {k : Nat} {d : Val} (h : refLt n d = true) : frz S0 n (k + 1) d = some d := by
  unfold frz
  rw [if_pos h]
theorem frzC_id {S0 : Store} {k : Nat} {c : Cell} (h : refLtC n c = true) : frzC S0 n (k + 1) c = some c := by
  cases c with
  | lst l =>
    show (mapO (frz S0 n (k + 1)) l).map Cell.lst = _
    rw [mapO_id (f := frz S0 n (k + 1)) fun d hd => frz_id (refLtL_all h d hd)]
    rfl
  | ins C ks vs =>
    show (mapO (frz S0 n (k + 1)) vs).map (fun ws => Cell.ins C ks ws) = _
    rw [mapO_id (f := frz S0 n (k + 1)) fun d hd => frz_id (refLtL_all h d hd)]
    rfl
/-- the store is given back as it is, what was laid behind it forgotten -/
theorem Fin.pure {S1 J : Store} {k : Nat} {d0 d : Val} (w : Wf S1) (h : frz (S1 ++ J) S1.length (k + 1) d0 = some d) : Fin S1.length (k + 1) d0 (S1 ++ J) d S1 := by
  refine ⟨by simp, h, ?_⟩
  rw [List.take_left]
  refine mapO_id fun c hc => ?_
  obtain ⟨i, hi, e⟩ := List.getElem_of_mem hc
  exact frzC_id (w i c (by rw [List.getElem?_eq_getElem hi, e]))
end

/-! ### a def's promise, where nothing is being shown -/
structure FnG (P : Program) (w : World) (K : Frg) (mg : Str → Option Value) (base : Heap) (k : Nat) (f : Addr) (fd : FuncData) (ps : List Str) (sp : Sp) : Prop where
  len : ∀ vs H Q E, sp vs H Q E → vs.length = ps.length
  run : ∀ (A : Around) (outer : List Env) (s : Shared) (H : Hp) (args : Args) (us : List Value) (vs : List V) (Q : VK) (E : XK), Room k A → A.guards = some [] → Env0 P w K mg base A outer s H →
    BindsTo s fd args (ps.zip us) → Vals vs us → sp vs H Q E → codeAny (model P w) A (.call (.ref f) args) (CR CX0 outer P w H s Q E) s
theorem FnG.mono {P : Program} {w : World} {K : Frg} {mg : Str → Option Value} {base : Heap} {j k : Nat} {f : Addr} {fd : FuncData} {ps : List Str} {sp : Sp} (G : FnG P w K mg base j f fd ps sp) (h : j ≤ k) : FnG P w K mg base k f fd ps sp :=
  ⟨G.len, fun A outer s H args us vs Q E hr => G.run A outer s H args us vs Q E (hr.mono h)⟩
abbrev cx0 (P : Program) (w : World) (K : Frg) (mg : Str → Option Value) (base : Heap) (N : List Str) (qual : Str) (sc : Scope) (f : Addr) (cdv : Value) (A : Around) (outer : List Env) (s : Shared) (H : Hp) (E : XK) : Cx :=
  (cxOf CX0 P w K mg base N qual sc f cdv A outer s H E).nox
theorem fng_of {P : Program} {w : World} {K : Frg} {mg : Str → Option Value} {base : Heap} {x qual : Str} {st : Stmt} {f : Addr} {fd : FuncData} {N ps : List Str} {k : Nat} {sp : Sp} (Fu : Fun K x qual st f fd) (Sc : FnScope N ps (defScope st))
    (len : ∀ vs H Q E, sp vs H Q E → vs.length = ps.length)
    (hbody : ∀ (cdv : Value) (A : Around) (outer : List Env) (s : Shared) (H : Hp) (vs : List V) (Q : VK) (E : XK), Room k (A.deeper (envOfC qual (defScope st) s.heap.objs.size f cdv)) → A.guards = some [] → sp vs H Q E →
      ∃ t, PSs (cx0 P w K mg base N qual (defScope st) f cdv A outer s H E) (defBody st) t ∧ t { nx := fun _ H' => Q .non H', rt := Q } (L2.start N vs) H) : FnG P w K mg base (k + 1) f fd ps sp := by
  obtain ⟨oc, od, kV, doc, pm, an, cdv, ct, osl, rfl, lk, hcd⟩ := Fu.ex
  refine ⟨len, fun A outer s H args us vs Q E hr hgd en hb rel hsp => ?_⟩
  have nlen := len vs H Q E hsp
  have kin : K.In s.heap := en.mod.kin.keeps fun b o e => (en.bs b o e).1
  have nol : s.heap.NoLimit := en.mod.nolimit.keeps fun b o e => (en.bs b o e).1
  refine codeAny_call_function hr.depth (kin f _ lk) rfl Sc.co Sc.gen rfl (PySem.W.codeRec_of kin hcd) (hb _ _ _ _ ?_)
  refine wpAny_newFunctionEnv_cells Sc.kind (fun y hy => ?_) fun env he s1 inC => ?_
  · have hm : y.1 ∈ ps := (List.of_mem_zip (a := y.1) (b := y.2) hy).1
    rcases Sc.par y.1 hm with z | z
    · exact Or.inl z
    · exact Or.inr ⟨z, PySem.W.cellsFrom_some _ _ _ (Or.inl z)⟩
  · subst he
    refine ⟨nol.keeps inC.toInCall.keep, codeAny_func ?_⟩
    obtain ⟨t, pt, qt⟩ := hbody cdv A outer s H vs Q E (hr.deeper _) hgd hsp
    have inv := inv_start (CX := CX0) (P := P) (w := w) (K := K) (mg := mg) (base := base) (E := E) (qual := qual) (f := f) (cd := cdv) Sc hr.hd en nlen rel inC
    have done : ∀ {s' : Shared} {τ : L2.St} {H' : Hp} {v : V} {u : Value}, Inv (cxOf CX0 P w K mg base N qual (defScope st) f cdv A outer s H E) [] τ H' s' → RelV v u → Q v H' → CE outer P w H s Q u s' :=
      fun J r q => ⟨_, _, J.os, J.bare, J.base, J.hok, r, q⟩
    refine wpAny_mono (pt.nox.run [] s1 (L2.start N vs) H _ inv qt) (fun fl s' hs => ?_) fun e s' hs => hs
    cases fl with
    | brk => obtain ⟨_, _, _, q⟩ := hs; exact q.elim
    | cont => obtain ⟨_, _, _, q⟩ := hs; exact q.elim
    | next =>
      obtain ⟨τ, H', J, q⟩ := hs
      exact done (v := V.non) (u := Value.none) J rfl q
    | ret u =>
      obtain ⟨v, τ, H', J, r, q⟩ := hs
      exact done J r q

/-- a def as a function of values and the store -/
def spM (K : Frg) (n : Nat) (M : MCall) : Sp := fun vs H Q _ => vs.length = n ∧ ∃ F φ S ds d S', Rp K F φ S H ∧ RVs K F φ H ds vs ∧ M ds S = some (d, S') ∧ Aft K F φ H S' d Q
def startE (N : List Str) (ds : List Val) : VEnv := ds.map some ++ List.replicate (N.length - ds.length) none
def runB (N : List Str) (m : MS) (ds : List Val) (S : Store) : Option (Val × Store) := bnd (m (startE N ds) S) fun o S1 => match o with
  | .rt d => some (d, S1)
  | .nx _ => some (.non, S1)
  | _ => none
theorem re_start {K : Frg} {F φ : List Addr} {H : Hp} {N : List Str} {ds : List Val} {vs : List V} (r : RVs K F φ H ds vs) : RE K F φ H (startE N ds) (L2.start N vs) := by
  have hl := r.length
  unfold startE L2.start
  refine ⟨by simp [hl], fun i d h => ?_⟩
  by_cases hi : i < ds.length
  · rw [List.getElem?_append_left (by simpa using hi), List.getElem?_map] at h
    cases q : ds[i]? with
    | none => rw [q] at h; cases h
    | some e =>
      rw [q] at h
      cases h
      obtain ⟨v, h1, h2⟩ := r.get q
      exact ⟨v, by rw [List.getElem?_append_left (by simp; omega), List.getElem?_map, h1]; rfl, h2⟩
  · rw [List.getElem?_append_right (by simpa using hi), List.getElem?_replicate] at h
    split at h <;> cases h
/-- the promise of a def, from its body's meaning m and the function M that says what it does -/
theorem fi_mk {P : Program} {w : World} {K : Frg} {mg : Str → Option Value} {base : Heap} {x qual : Str} {st : Stmt} {f : Addr} {fd : FuncData} {N ps : List Str} {k : Nat} {M : MCall} {m : MS} (Fu : Fun K x qual st f fd) (Sc : FnScope N ps (defScope st))
    (hbody : ∀ (cdv : Value) (A : Around) (outer : List Env) (s : Shared) (H : Hp) (E : XK), Room k (A.deeper (envOfC qual (defScope st) s.heap.objs.size f cdv)) → A.guards = some [] →
      BI (cx0 P w K mg base N qual (defScope st) f cdv A outer s H E) (defBody st) m)
    (href : ∀ ds S d S', ds.length = ps.length → Wf S → refLtL S.length ds = true → M ds S = some (d, S') → ∃ n k d0 S0, S.length ≤ n ∧ runB N m ds S = some (d0, S0) ∧ Fin n k d0 S0 d S') :
    FnG P w K mg base (k + 1) f fd ps (spM K ps.length M) := by
  refine fng_of Fu Sc (fun vs H Q E h => h.1) fun cdv A outer s H vs Q E hr hgd h => ?_
  obtain ⟨hl, F, φ, S, ds, d, S', R, r, hM, a⟩ := h
  obtain ⟨t, p, i⟩ := hbody cdv A outer s H E hr hgd
  refine ⟨t, p, ?_⟩
  obtain ⟨n, k', d0, S0, hn, hrun, hf⟩ := href ds S d S' (by rw [← r.length]; exact hl) R.wf (by rw [← R.len]; exact refLt_ofL _ _ r) hM
  unfold runB at hrun
  obtain ⟨o, S1, h1, h2⟩ := bnd_some hrun
  have back : ∀ (d1 : Val), some (d1, S1) = some (d0, S0) → Aft K F φ H S1 d1 Q := fun d1 e φ1 H1 v x1 R1 r1 => by
    cases e
    have hn' : φ.length ≤ n := by rw [R.len]; exact hn
    exact a (φ1.take n) H1 v (x1.fin hn') (R1.fin hf.1 hf.2.2) (RV.frz R1 k' _ _ _ hf.2.1 r1)
  refine i F φ S H (L2.start N vs) (startE N ds) o S1 R (re_start r) h1 _ ?_
  cases o with
  | rt d1 => exact back d1 h2
  | nx e => exact fun φ1 H1 σ1 x1 R1 _ => back .non h2 φ1 H1 .non x1 R1 rv_non
  | bk e => cases h2
  | ct e => cases h2

/-! ### calls of defs -/
section
variable {X : Cx} {j k : Nat} {f : Addr} {fd : FuncData} {ps : List Str} {x : Str} {p pos : Pos} {e : Expr} {es : List Expr} {ms : MA} {n : Nat} {M : MCall}
def tGo (K : Frg) (n : Nat) (M : MCall) (t : TA) : TE := fun σ H Q => t σ H fun vs H1 => spM K n M vs H1 Q (fun _ _ _ => False)
theorem im_go {K : Frg} {t : TA} (it : ImA K t ms) (hn : ∀ env S ds S1, ms env S = some (ds, S1) → ds.length = n) : Im K (tGo K n M t) (mCall M ms) := fun F φ S H σ env d S' R E h Q a => by
  obtain ⟨ds, S1, h1, h⟩ := bnd_some h
  refine it F φ S H σ env ds S1 R E h1 _ fun φ1 H1 vs e1 R1 r1 => ?_
  exact ⟨by rw [r1.length]; exact hn _ _ _ _ h1, F, φ1, S1, ds, d, S', R1, r1, h, a.mono e1⟩
theorem run_go {pins : List (Addr × Obj)} {σ : L2.St} {H : Hp} {s : Shared} {Q : VK} {args : Args} {us : List Value} {vs : List V} {sp : Sp} {E : XK} (G : FnG X.prog X.w X.K X.mg X.base j f fd ps sp) (hr : Room j X.A) (hgd : X.A.guards = some [])
    (I : Inv X pins σ H s) (hb : BindsTo s fd args (ps.zip us)) (r : Vals vs us) (h : sp vs H Q E) : wpAny (model X.prog X.w) X.A (call (.ref f) args.pos args.kw) (EP X pins σ Q) X.xe s := by
  refine wpAny_call (codeAny_mono (G.run X.A X.stack s H args us vs Q E hr hgd I.env0 hb r h) fun res s' hq => ?_)
  cases res with
  | error _ => exact (show False from hq).elim
  | ok fl =>
    cases fl with
    | ret u => exact I.after hq
    | next => exact (show False from hq).elim
    | brk => exact (show False from hq).elim
    | cont => exact (show False from hq).elim
theorem ei_go (G : FnG X.prog X.w X.K X.mg X.base j f fd ps (spM X.K n M)) (hr : Room k X.A) (hj : j ≤ k) (hgd : X.A.guards = some []) (hg : Gl X x) (hm : X.mg x = some (.ref f)) (hk : PySem.W.keepIn X.K (.ref f) = true) (hb : Binds X.K fd ps [])
    (ha : AI X (e :: es) ms) (hn : ∀ env S ds S1, ms env S = some (ds, S1) → ds.length = n) (hdb : (x == ("__debug__" : Str)) = false := by decide) (he : starEach (e :: es) X.env = (false, eval e X.env) :: starEach es X.env := by rfl)
    (hpl : (backTo pos (starEach es X.env)).any (·.1) = false := by rfl) : EI X (.Call (.Name x p) (e :: es) [] pos) (mCall M ms) := by
  obtain ⟨t, pa, ia⟩ := ha
  refine ⟨tGo X.K n M t, ⟨fun pins s σ H Q I h => ?_⟩, im_go ia hn⟩
  refine wpAny_Call_Name_kw (ld_glob I hg hm ?_ hdb)
  refine PySem.W.callWith_K (h₀ := X.base) I.ok.mod.kin hk (thn (pa.run pos pins s σ H _ I h) fun us s1 h1 => ?_) he hpl
  obtain ⟨vs, H1, I1, r, q⟩ := h1
  have hl := G.len _ _ _ _ q
  refine ⟨I1.kIn, run_go (args := ⟨us, []⟩) (us := us) (E := fun _ _ _ => False) G (hr.mono hj) hgd I1 ?_ r q⟩
  have := hb s1 us I1.kIn (by rw [List.append_nil, ← r.length]; exact hl)
  rw [List.append_nil] at this
  exact this
theorem ei_go0 (G : FnG X.prog X.w X.K X.mg X.base j f fd [] (spM X.K 0 M)) (hr : Room k X.A) (hj : j ≤ k) (hgd : X.A.guards = some []) (hg : Gl X x) (hm : X.mg x = some (.ref f)) (hk : PySem.W.keepIn X.K (.ref f) = true) (hb : Binds X.K fd [] [])
    (hdb : (x == ("__debug__" : Str)) = false := by decide) : EI X (.Call (.Name x p) [] [] pos) (mCall M mNil) := by
  refine ⟨tGo X.K 0 M tNil, ⟨fun pins s σ H Q I h => ?_⟩, im_go (ms := mNil) (n := 0) (fun F φ S H σ env ds S' R E h Q a => by cases h; exact a φ H [] Ext.refl R .nil) fun _ _ _ _ h => by cases h; rfl⟩
  refine wpAny_Call_Name_kw (ld_glob I hg hm ?_ hdb)
  refine PySem.W.callWith_K0 I.kIn hk (run_go (args := ⟨[], []⟩) (us := []) (E := fun _ _ _ => False) G (hr.mono hj) hgd I ?_ .nil h)
  have := hb s [] I.kIn rfl
  simpa using this
/-- calls with keywords: which of the values written, one after another, come to the parameters -/
def pick {α : Type} (ix : List Nat) (l : List α) : List α := ix.filterMap (l[·]?)
theorem vals_pick {vs : List V} {us : List Value} (r : Vals vs us) : ∀ ix : List Nat, Vals (Fx.pick ix vs) (Fx.pick ix us)
  | [] => .nil
  | i :: ix => by
    have ih := vals_pick r ix
    unfold Fx.pick at ih ⊢
    rw [List.filterMap_cons, List.filterMap_cons]
    cases q : vs[i]? with
    | none =>
      rw [r.none_of q]
      exact ih
    | some v =>
      obtain ⟨u, h1, h2⟩ := r.get q
      rw [h1]
      exact .cons h2 ih
theorem RVs.pick {K : Frg} {F φ : List Addr} {H : Hp} {ds : List Val} {vs : List V} (r : RVs K F φ H ds vs) : ∀ ix : List Nat, RVs K F φ H (Fx.pick ix ds) (Fx.pick ix vs)
  | [] => .nil
  | i :: ix => by
    have ih := RVs.pick r ix
    unfold Fx.pick at ih ⊢
    rw [List.filterMap_cons, List.filterMap_cons]
    cases q : ds[i]? with
    | none =>
      have : vs[i]? = none := List.getElem?_eq_none_iff.mpr (by rw [r.length]; exact List.getElem?_eq_none_iff.mp q)
      rw [this]
      exact ih
    | some d =>
      obtain ⟨u, h1, h2⟩ := r.get q
      rw [h1]
      exact .cons h2 ih
def KB (K : Frg) (fd : FuncData) (ps : List Str) (n : Nat) (ks : List Str) (ix : List Nat) : Prop := ∀ (s : Shared) (us ws : List Value), K.In s.heap → us.length = n → ws.length = ks.length → BindsTo s fd ⟨us, ks.zip ws⟩ (ps.zip (pick ix (us ++ ws)))
def mKw (ix : List Nat) (ms mk : MA) : MA := fun env S => bnd (ms env S) fun ds S1 => bnd (mk env S1) fun es S2 => some (pick ix (ds ++ es), S2)
def KI (X : Cx) (kws : List Keyword) (m : MA) : Prop := ∃ t, PK X kws t ∧ ImA X.K t m
theorem ki_nil : KI X [] mNil := ⟨_, pk_nil, fun F φ S H σ env ds S' R E h Q a => by
  cases h
  exact a φ H [] Ext.refl R RVs.nil⟩
theorem im_cons {K : Frg} {t : TE} {u : TA} {m : ME} {ms : MA} (i : Im K t m) (j : ImA K u ms) : ImA K (tCons t u) (mCons m ms) := fun F φ S H σ env ds S' R E h Q a => by
  obtain ⟨d, S1, h1, h⟩ := bnd_some h
  obtain ⟨ds', S2, h2, h⟩ := bnd_some h
  cases h
  refine i F φ S H σ env d S1 R E h1 _ fun φ1 H1 v e1 R1 r1 => ?_
  refine j F φ1 S1 H1 σ env ds' S' R1 (E.mono e1) h2 _ fun φ2 H2 vs e2 R2 r2 => ?_
  exact a φ2 H2 _ (e1.trans e2) R2 (.cons (RV.mono e2 _ _ r1) r2)
theorem ki_cons {nm : Option Str} {kpos : Pos} {kws : List Keyword} {m : ME} (h : EI X e m) (g : KI X kws ms) : KI X (⟨nm, e, kpos⟩ :: kws) (mCons m ms) := by
  obtain ⟨t, p, i⟩ := h
  obtain ⟨u, q, j⟩ := g
  exact ⟨_, pk_cons p q, im_cons i j⟩
def tGoK (K : Frg) (n l : Nat) (ix : List Nat) (M : MCall) (a b : Nat) (t tk : TA) : TE := fun σ H Q => t σ H fun vs H1 => tk σ H1 fun zs H2 => vs.length = a ∧ zs.length = b ∧ spM K n M (pick ix (vs ++ zs)) H2 Q (fun _ _ _ => False)
theorem im_goK {K : Frg} {a b l : Nat} {ix : List Nat} {t tk : TA} {mk : MA} (it : ImA K t ms) (ik : ImA K tk mk) (ha : ∀ env S ds S1, ms env S = some (ds, S1) → ds.length = a) (hb : ∀ env S ds S1, mk env S = some (ds, S1) → ds.length = b)
    (hn : ∀ env S ds S1, mKw ix ms mk env S = some (ds, S1) → ds.length = n) : Im K (tGoK K n l ix M a b t tk) (mCall M (mKw ix ms mk)) := fun F φ S H σ env d S' R E h Q q => by
  obtain ⟨ds, S1, h1, h⟩ := bnd_some h
  have hl := hn _ _ _ _ h1
  obtain ⟨d1, S2, h2, h1⟩ := bnd_some h1
  obtain ⟨d2, S3, h3, h1⟩ := bnd_some h1
  cases h1
  refine it F φ S H σ env d1 S2 R E h2 _ fun φ1 H1 vs e1 R1 r1 => ?_
  refine ik F φ1 S2 H1 σ env d2 S1 R1 (E.mono e1) h3 _ fun φ2 H2 zs e2 R2 r2 => ?_
  have r3 := ((RVs.mono e2 _ _ r1).append r2).pick ix
  exact ⟨by rw [r1.length]; exact ha _ _ _ _ h2, by rw [r2.length]; exact hb _ _ _ _ h3, by rw [r3.length]; exact hl, F, φ2, S1, _, d, S', R2, r3, h, q.mono (e1.trans e2)⟩
theorem ei_goK {ks : List Str} {ix : List Nat} {kws : List Keyword} {a : Nat} {mk : MA} (G : FnG X.prog X.w X.K X.mg X.base j f fd ps (spM X.K n M)) (hr : Room k X.A) (hj : j ≤ k) (hgd : X.A.guards = some []) (hg : Gl X x) (hm : X.mg x = some (.ref f)) (hk : PySem.W.keepIn X.K (.ref f) = true) (hb : KB X.K fd ps a ks ix)
    (ha : AI X (e :: es) ms) (hkw : KI X kws mk) (la : ∀ env S ds S1, ms env S = some (ds, S1) → ds.length = a) (lk : ∀ env S ds S1, mk env S = some (ds, S1) → ds.length = ks.length) (hn : ∀ env S ds S1, mKw ix ms mk env S = some (ds, S1) → ds.length = n)
    (hall : (backToKw pos (keywordEach kws X.env)).all (·.1.isSome) = true := by rfl) (hks : (backToKw pos (keywordEach kws X.env)).filterMap (·.1) = ks := by rfl)
    (hdb : (x == ("__debug__" : Str)) = false := by decide) (he : starEach (e :: es) X.env = (false, eval e X.env) :: starEach es X.env := by rfl)
    (hpl : ((backTo pos (starEach (e :: es) X.env)).any (·.1) || (backToKw pos (keywordEach kws X.env)).any (·.1.isNone)) = false := by rfl) : EI X (.Call (.Name x p) (e :: es) kws pos) (mCall M (mKw ix ms mk)) := by
  obtain ⟨t, pa, ia⟩ := ha
  obtain ⟨u, pk, ik⟩ := hkw
  refine ⟨tGoK X.K n 0 ix M a ks.length t u, ⟨fun pins s σ H Q I h => ?_⟩, im_goK ia ik la lk hn⟩
  refine wpAny_Call_Name_kw (ld_glob I hg hm ?_ hdb)
  refine PySem.W.callWith_KW (h₀ := X.base) I.ok.mod.kin hk hall (thn (pa.run pos pins s σ H _ I h) fun us s1 h1 => ?_) hpl he
  obtain ⟨vs, H1, I1, r, q⟩ := h1
  refine thn (pk.run pos pins s1 σ H1 _ I1 q) fun ws s2 h2 => ?_
  obtain ⟨zs, H2, I2, rz, l1, l2, q2⟩ := h2
  rw [hks]
  exact ⟨I2.kIn, run_go (args := ⟨us, ks.zip ws⟩) (us := pick ix (us ++ ws)) (E := fun _ _ _ => False) G (hr.mono hj) hgd I2 (hb s2 us ws I2.kIn (by rw [← r.length]; exact l1) (by rw [← rz.length]; exact l2)) (vals_pick (r.append rz) ix) q2⟩
theorem ei_goK0 {ks : List Str} {ix : List Nat} {kws : List Keyword} {mk : MA} (G : FnG X.prog X.w X.K X.mg X.base j f fd ps (spM X.K n M)) (hr : Room k X.A) (hj : j ≤ k) (hgd : X.A.guards = some []) (hg : Gl X x) (hm : X.mg x = some (.ref f)) (hk : PySem.W.keepIn X.K (.ref f) = true) (hb : KB X.K fd ps 0 ks ix)
    (hkw : KI X kws mk) (lk : ∀ env S ds S1, mk env S = some (ds, S1) → ds.length = ks.length) (hn : ∀ env S ds S1, mKw ix mNil mk env S = some (ds, S1) → ds.length = n)
    (hall : (backToKw pos (keywordEach kws X.env)).all (·.1.isSome) = true := by rfl) (hks : (backToKw pos (keywordEach kws X.env)).filterMap (·.1) = ks := by rfl)
    (hdb : (x == ("__debug__" : Str)) = false := by decide)
    (hpl : ((backTo pos (starEach [] X.env)).any (·.1) || (backToKw pos (keywordEach kws X.env)).any (·.1.isNone)) = false := by rfl) : EI X (.Call (.Name x p) [] kws pos) (mCall M (mKw ix mNil mk)) := by
  obtain ⟨u, pk, ik⟩ := hkw
  refine ⟨tGoK X.K n 0 ix M 0 ks.length tNil u, ⟨fun pins s σ H Q I h => ?_⟩, im_goK (ms := mNil) (fun F φ S H σ env ds S' R E h Q a => by cases h; exact a φ H [] Ext.refl R .nil) ik (fun _ _ _ _ h => by cases h; rfl) lk hn⟩
  refine wpAny_Call_Name_kw (ld_glob I hg hm ?_ hdb)
  refine PySem.W.callWith_KW0 (h₀ := X.base) I.ok.mod.kin hk hall ?_ hpl
  refine thn (pk.run pos pins s σ H _ I h) fun ws s2 h2 => ?_
  obtain ⟨zs, H2, I2, rz, l1, l2, q2⟩ := h2
  rw [hks]
  exact ⟨I2.kIn, run_go (args := ⟨[], ks.zip ws⟩) (us := pick ix ([] ++ ws)) (E := fun _ _ _ => False) G (hr.mono hj) hgd I2 (hb s2 [] ws I2.kIn rfl (by rw [← rz.length]; exact l2)) (vals_pick (vs := [] ++ zs) (us := [] ++ ws) rz ix) q2⟩
/-- how many values are written -/
theorem len_nil : ∀ env S ds S1, mNil env S = some (ds, S1) → ds.length = 0 := fun _ _ _ _ h => by cases h; rfl
theorem len_cons {m : ME} {ms : MA} {n : Nat} (h : ∀ env S ds S1, ms env S = some (ds, S1) → ds.length = n) : ∀ env S ds S1, mCons m ms env S = some (ds, S1) → ds.length = n + 1 := fun env S ds S1 q => by
  obtain ⟨d, S2, _, q⟩ := bnd_some q
  obtain ⟨ds', S3, h3, q⟩ := bnd_some q
  cases q
  rw [List.length_cons, h _ _ _ _ h3]
theorem len_kw {ix : List Nat} {ms mk : MA} {a b n : Nat} (ha : ∀ env S ds S1, ms env S = some (ds, S1) → ds.length = a) (hb : ∀ env S ds S1, mk env S = some (ds, S1) → ds.length = b) (hn : ∀ (l : List Val), l.length = a + b → (pick ix l).length = n) :
    ∀ env S ds S1, mKw ix ms mk env S = some (ds, S1) → ds.length = n := fun env S ds S1 q => by
  obtain ⟨d1, S2, h2, q⟩ := bnd_some q
  obtain ⟨d2, S3, h3, q⟩ := bnd_some q
  cases q
  exact hn _ (by rw [List.length_append, ha _ _ _ _ h2, hb _ _ _ _ h3])
end
theorem kb_of {K : Frg} {x qual : Str} {st : Stmt} {f : Addr} {fd : FuncData} {ps : List Str} {n : Nat} {ks : List Str} {ix : List Nat} (Fu : Fun K x qual st f fd)
    (h : ∀ (kV doc pm : Value) (an : Option Addr) (cdv ct : Value) (us ws : List Value), us.length = n → ws.length = ks.length → bindArgs (PySem.W.fnOf x qual (defArgs st) (defBody st) (defScope st) .none kV doc pm an cdv ct) ⟨us, ks.zip ws⟩ = pure (ps.zip (pick ix (us ++ ws)))) : KB K fd ps n ks ix := by
  obtain ⟨oc, od, kV, doc, pm, an, cdv, ct, osl, rfl, lk, hcd⟩ := Fu.ex
  exact fun s us ws _ h1 h2 => .of_eq (h kV doc pm an cdv ct us ws h1 h2)
end Fx
/-! The law's end: from the law as a function of its script. -/
namespace Fx
open PySem PySem.Spec PyProof.Rows L2

theorem rvs_ints {K : Frg} {F φ : List Addr} {H : Hp} : ∀ ns : List Int, RVs K F φ H (ns.map Val.int) (ns.map V.int)
  | [] => .nil
  | n :: ns => .cons rv_int (rvs_ints ns)
section
variable {P : Program} {w : World} {K : Frg} {mg mb : Str → Option Value} {k : Nat} {fa a : Addr} {fd : FuncData} {x : Str} {M : MCall} {s : Shared} {vs : List Value} {ns : List Int}
/-- the call of the law, nothing but the script being known of the heap -/
theorem law_run (kin : K.In s.heap) (nsG : s.heap.Ns mainGlobals mg) (nsB : s.heap.Ns builtinsNs mb) (mbv : ∀ y : Str, y ≠ "__name__" → mb y = bootBuiltins y) (nol : s.heap.NoLimit) (gen0 : s.gens = #[])
    (obj : s.heap.get? a = some { cls := .type "list", data := .seq vs.toArray }) (hr : Room k callerA) (G : ∀ base : Heap, K.In base → base.Ns mainGlobals mg → FnG P w K mg base k fa fd [x] (spM K 1 M))
    (hb : ∀ (s : Shared) (u : Value), BindsTo s fd ⟨[u], []⟩ [(x, u)]) (hM : M [.scr (ns.map Val.int)] [] = some (.bl true, []))
    (H : Hp) (one : ∀ b o, H b = some o → b = a ∧ (∃ ob xs, o = .frz ob (.lst xs)) ∧ K.lookup a = none) (scr : Scr K H a (ns.map V.int)) (ok : HOk P w H s.heap) :
    codeAny (model P w) callerA (.call (.ref fa) ⟨[.ref a], []⟩) (fun r s' => r = .ok (.ret (.bool true)) ∧ OldK s.heap s'.heap ∧ s'.os = s.os ∧ AllBare s'.gens) s := by
  -- what is not the script stands untracked
  have free : ∀ {b : Addr} {o : Obj}, s.heap.get? b = some o → (b = a → K.lookup a ≠ none ∨ ∃ es ep, o.data = .dict es ep) → H b = none := fun {b o} e hn => by
    cases q : H b with
    | none => rfl
    | some u =>
      obtain ⟨rfl, _, lk⟩ := one b u q
      rcases hn rfl with z | ⟨es, ep, z⟩
      · exact absurd lk z
      · rw [obj] at e
        cases e
        cases z
  have ns_of : ∀ {b : Addr} {m : Str → Option Value}, s.heap.Ns b m → (hidT s.heap H).Ns b m := fun {b m} z => by
    obtain ⟨o, es, ep, e, d, r⟩ := z
    exact ⟨o, es, ep, hidT_get e (free e fun _ => Or.inr ⟨es, ep, d⟩), d, r⟩
  have kinB : K.In (hidT s.heap H) := fun b o e => hidT_get (kin b o e) (free (kin b o e) fun z => Or.inl (by subst z; rw [e]; exact fun z => by cases z))
  have en : Env0 P w K mg (hidT s.heap H) callerA [] s H := by
    refine ⟨rfl, ⟨kinB, ns_of nsG, ⟨mb, ns_of nsB, mbv⟩, ?_⟩, fun b o e => of_hidT e, Nat.le_of_eq (hidT_size s.heap H), trivial, fun b z => ?_, ok, .of_eq gen0⟩
    · obtain ⟨mc, z1, z2⟩ := nol
      exact ⟨mc, ns_of z1, z2⟩
    · exact absurd (show b ∈ ([] : List Addr) from z) (List.not_mem_nil)
  have promise : spM K 1 M [.ref a] H (fun v _ => v = .bl true) (fun _ _ _ => False) := by
    refine ⟨rfl, [], [], [], [.scr (ns.map Val.int)], .bl true, [], ⟨rfl, List.nodup_nil, fun i c q => by simp at q, fun b z => by cases z⟩, .cons ?_ .nil, hM, fun φ' H' v _ _ r => r.bl⟩
    unfold RV
    exact ⟨a, ns.map V.int, rfl, scr, rvs_ints ns⟩
  refine codeAny_mono ((G _ kinB (ns_of nsG)).run callerA [] s H ⟨[.ref a], []⟩ [.ref a] [.ref a] _ _ hr rfl en (hb s (.ref a)) (.cons rfl .nil) promise) fun res s' h => ?_
  cases res with
  | error e => exact (show False from h).elim
  | ok fl =>
    cases fl with
    | next => exact (show False from h).elim
    | brk => exact (show False from h).elim
    | cont => exact (show False from h).elim
    | ret u =>
      obtain ⟨v, H', osE, bare, un, ok', r, rfl⟩ := h
      obtain rfl : u = Value.bool true := r
      refine ⟨rfl, OldK.of_keep fun b o e => ?_, osE, bare⟩
      cases q : H b with
      | none => exact un.keep b o e q (fun z => absurd (show b ∈ ([] : List Addr) from z) List.not_mem_nil) (by simp)
      | some u =>
        obtain ⟨_, ⟨ob, xs, rfl⟩, _⟩ := one b u q
        have z1 := (ok b _ q).1
        have z2 := (ok' b _ (un.frzs b ob _ q)).1
        rw [e] at z1
        cases z1
        exact z2
end
theorem walkG {l : PySem.W.OpenLaw} {n k : Nat} {q : Program} {loose : List Str} {XP : (Str → Option Value) → Heap → Prop} {YP : World → Heap → Prop} {d : DefRec} {K : Params → Frg} {x : Str} {M : MCall}
    (hn : l.most = some n) (hn2 : n ≤ sizeLine) (hdf : d.params.defaults = []) (hr : Room k callerA) (hY : ∀ (w : World) (h : Heap), YP w h → (K w.params).In h)
    (G : ∀ (w : World) (mg : Str → Option Value) (fa : Addr) (h : Heap), (K w.params).In h → h.Ns mainGlobals mg → mg d.name = some (.ref fa) →
      ∃ fd : FuncData, (∀ (s : Shared) (u : Value), BindsTo s fd ⟨[u], []⟩ [(x, u)]) ∧ ∀ base : Heap, (K w.params).In base → base.Ns mainGlobals mg → FnG l.prog w (K w.params) mg base k fa fd [x] (spM (K w.params) 1 M))
    (hM : ∀ ns : List Int, ns.length ≤ n → M [.scr (ns.map Val.int)] [] = some (.bl true, [])) : PySem.W.WalkO q loose XP YP l.row.toRowW d [] (fun f vs => PySem.call f vs) := by
  refine Att.attach_call hn hdf fun w s₀ s₁ mg mb fa o pm cd doc a vs ns Gr Y _ _ _ hmg obj hints len gen0 => ?_
  have kin := hY w _ Y
  obtain ⟨fd, hb, hG⟩ := G w mg fa _ kin Gr.T.g hmg
  have rel := vals_ints hints
  have go := law_run (P := l.prog) (w := w) kin Gr.T.g Gr.T.b Gr.T.builtins Gr.T.nolimit gen0 obj hr hG hb (hM ns len)
  cases lk : (K w.params).lookup a with
  | some o' =>
    have e := kin a o' lk
    rw [obj] at e
    cases e
    refine go (fun _ => none) (fun b u z => by cases z) (.inr ⟨_, vs.toArray, _, lk, rfl, rfl, rfl, ?_, by simpa using rel⟩) (fun b u z => by cases z)
    rw [List.size_toArray, hints.length]
    exact Nat.le_trans len hn2
  | none =>
    have here : (fun b : Addr => if b = a then some (HO.frz { cls := .type "list", data := .seq vs.toArray } (.lst (ns.map V.int))) else none) a = some (HO.frz { cls := .type "list", data := .seq vs.toArray } (.lst (ns.map V.int))) := if_pos rfl
    refine go (fun b => if b = a then some (.frz { cls := .type "list", data := .seq vs.toArray } (.lst (ns.map V.int))) else none) (fun b u z => ?_) (.inl ⟨_, here⟩) (fun b u z => ?_)
    · split at z
      · rename_i hb
        cases z
        exact ⟨hb, ⟨_, _, rfl⟩, lk⟩
      · cases z
    · dsimp only at z
      split at z
      · rename_i hb
        cases z
        subst hb
        exact ⟨obj, by rw [List.length_map]; exact Nat.le_trans len hn2, vs, _, rel, obj⟩
      · cases z
end Fx
/-! Further forms: chains of comparisons, truth of any value, three names at once, constants, promises by name, replace. -/
namespace Fx
open PySem PySem.Spec PyProof.Rows L2
section
variable {X : Cx} {a b c : Expr} {ma mb mc : ME} {pos : Pos}
/-- a op b op' c -/
def mChain (f g : M2) (ma mb mc : ME) : ME := fun env S => bnd (ma env S) fun x S1 => bnd (mb env S1) fun y S2 => bnd (f x y S2) fun z S3 => match z with
  | .bl k => if k = true then bnd (mc env S3) fun w S4 => g y w S4 else some (.bl false, S3)
  | _ => none
theorem im_chain {K : Frg} {ta tb tc : TE} {r r' : R2} {f g : M2} (ia : Im K ta ma) (ib : Im K tb mb) (ic : Im K tc mc) (i : Im2 K r f) (j : Im2 K r' g) : Im K (tChain r r' ta tb tc) (mChain f g ma mb mc) := fun F φ S H σ env d S' R E h Q q => by
  obtain ⟨x, S1, h1, h⟩ := bnd_some h
  obtain ⟨y, S2, h2, h⟩ := bnd_some h
  obtain ⟨z, S3, h3, h⟩ := bnd_some h
  refine ia F φ S H σ env x S1 R E h1 _ fun φ1 H1 v e1 R1 r1 => ?_
  refine ib F φ1 S1 H1 σ env y S2 R1 (E.mono e1) h2 _ fun φ2 H2 u e2 R2 r2 => ?_
  refine i F φ2 S2 H2 x y v u z S3 R2 (RV.mono e2 _ _ r1) r2 h3 _ fun φ3 H3 w e3 R3 r3 => ?_
  cases z with
  | bl k =>
    refine ⟨k, r3.bl, ?_⟩
    cases k with
    | false =>
      cases h
      exact q φ3 H3 _ (e1.trans (e2.trans e3)) R3 rv_bl
    | true =>
      obtain ⟨t, S4, h4, h⟩ := bnd_some h
      refine ic F φ3 S3 H3 σ env t S4 R3 (E.mono (e1.trans (e2.trans e3))) h4 _ fun φ4 H4 w' e4 R4 r4 => ?_
      exact j F φ4 S4 H4 y t u w' d S' R4 (RV.mono (e3.trans e4) _ _ r2) r4 h Q (q.mono (e1.trans (e2.trans (e3.trans e4))))
  | _ => cases h
theorem ei_chain {op op' : CmpOp} {f g : M2} (ho : Op2 X (compareOp op) f) (ho' : Op2 X (compareOp op') g) (ha : EI X a ma) (hb : EI X b mb) (hc : EI X c mc) (hm : lastMarks [op, op'] [b, c] = false := by with_unfolding_all rfl) :
    EI X (.Compare a [op, op'] [b, c] pos) (mChain f g ma mb mc) := by
  obtain ⟨r, o, i⟩ := ho
  obtain ⟨r', o', i'⟩ := ho'
  obtain ⟨ta, pa, ia⟩ := ha
  obtain ⟨tb, pb, ib⟩ := hb
  obtain ⟨tc, pc, ic⟩ := hc
  exact ⟨_, pe_chain o o' pa pb pc hm, im_chain ia ib ic i i'⟩
theorem ti_chain {op op' : CmpOp} {f g : M2} (ho : Op2 X (compareOp op) f) (ho' : Op2 X (compareOp op') g) (ha : EI X a ma) (hb : EI X b mb) (hc : EI X c mc) (hm : lastMarks [op, op'] [b, c] = false := by with_unfolding_all rfl) :
    TI X (.Compare a [op, op'] [b, c] pos) (mTest (mChain f g ma mb mc)) := by
  obtain ⟨r, o, i⟩ := ho
  obtain ⟨r', o', i'⟩ := ho'
  obtain ⟨ta, pa, ia⟩ := ha
  obtain ⟨tb, pb, ib⟩ := hb
  obtain ⟨tc, pc, ic⟩ := hc
  exact ⟨_, pt_chain o o' pa pb pc hm, im_test (im_chain ia ib ic i i')⟩
/-- a, b, c = x, y, z -/
theorem si_par3 {i j l : Nat} {x y z : Str} {ms : MA} {px py pz pt : Pos} {kt k2 pt2} (hc : X.calm = true) (hN : X.N.Nodup) (hi : X.N[i]? = some x) (hj : X.N[j]? = some y) (hl : X.N[l]? = some z) (hij : i ≠ j) (hil : i ≠ l) (hjl : j ≠ l)
    (hx : X.env.scope.names.lookup x = some .local) (hy : X.env.scope.names.lookup y = some .local) (hz : X.env.scope.names.lookup z = some .local) (ha : AI X [a, b, c] ms)
    (hw : swappedStores [.Tuple [.Name x px, .Name y py, .Name z pz] kt pt] (.Tuple [a, b, c] k2 pt2) X.env = pure (some [x, y, z]))
    (hs : swapsWithSole [.Tuple [.Name x px, .Name y py, .Name z pz] kt pt] (.Tuple [a, b, c] k2 pt2) pos.line X.env = pure false := by rfl) :
    SI X (.Assign [.Tuple [.Name x px, .Name y py, .Name z pz] kt pt] (.Tuple [a, b, c] k2 pt2) pos) (mPar3 i j l ms) := by
  obtain ⟨t, p, q⟩ := ha
  refine ⟨_, ps_par3 hc hN hi hj hl hij hil hjl hx hy hz p hw hs, fun F φ S H σ env o S' R E h D a => ?_⟩
  obtain ⟨ds, S1, h1, h⟩ := bnd_some h
  split at h
  · rename_i d1 d2 d3 _
    cases h
    refine q F φ S H σ env _ S' R E h1 _ fun φ1 H1 vs e1 R1 r1 => ?_
    obtain ⟨v, ws, g1, g2, g3⟩ := r1.inv
    obtain ⟨v', ws', k1, k2, k3⟩ := g3.inv
    obtain ⟨v2, ws2, l1, l2, l3⟩ := k3.inv
    exact ⟨v, v', v2, by rw [g1, k1, l1, l3.inv0], a φ1 H1 _ e1 R1 ((((E.mono e1).set g2 i).set k2 j).set l2 l)⟩
  · cases h
/-- truth of any value -/
def mTru (m : ME) : MT := fun env S => bnd (m env S) fun d S1 => (truD S1 d).map fun b => (b, S1)
theorem tru_of {K : Frg} {F φ : List Addr} {S : Store} {H : Hp} {d : Val} {v : V} {b : Bool} (R : Rp K F φ S H) (r : RV K F φ H d v) (h : truD S d = some b) : TruV K v H b := by
  have lst : (lstOf S d).map (fun l => !l.isEmpty) = some b → TruV K v H b := fun h => by
    cases e : lstOf S d with
    | none => rw [e] at h; cases h
    | some l =>
      rw [e] at h
      cases h
      obtain ⟨p, xs, h1, h2, h3⟩ := lst_of R e r
      rw [h1]
      refine .inl ⟨xs, h2, ?_⟩
      have := h3.length
      cases l <;> cases xs <;> first | rfl | simp at this
  cases d with
  | non => unfold truD at h; cases h; rw [r.non]; rfl
  | bl k => unfold truD at h; cases h; rw [r.bl]; rfl
  | int k => unfold truD at h; cases h; rw [r.int]; rfl
  | str z =>
    have h : (if z.length ≤ sizeLine then some (z.length != 0) else none) = some b := h
    split at h
    · rename_i hz
      cases h
      rw [r.str]
      refine ⟨hz, ?_⟩
      cases q : z.length with
      | zero => rfl
      | succ n =>
        have e1 : (n + 1 != 0) = true := rfl
        have e2 : (((n + 1 : Nat) : Int) != 0) = true := by rw [bne_iff_ne]; omega
        rw [e1, e2]
    · cases h
  | tup l =>
    unfold truD at h
    cases h
    unfold RV at r
    obtain ⟨p, xs, h1, h2, h3⟩ := r
    rw [h1]
    refine .inr (.inl ⟨xs, h2, ?_⟩)
    have := h3.length
    cases l <;> cases xs <;> first | rfl | simp at this
  | fro l => exact lst h
  | scr l => exact lst h
  | ref i => exact lst h
  | obj C ks vs => unfold truD lstOf at h; cases h
  | raw w => unfold truD lstOf at h; cases h
theorem ti_tru (h : EI X a ma) (he : ∀ whole, isTrue a X.env whole = (do let v ← whole; standAt a.pos; holding [v] (truthy v)) := by intro _; rfl) : TI X a (mTru ma) := by
  obtain ⟨t, p, i⟩ := h
  refine ⟨_, pt_truth p he, fun F φ S H σ env b S' R E h Q q => ?_⟩
  obtain ⟨d, S1, h1, h⟩ := bnd_some h
  cases e : truD S1 d with
  | none => rw [e] at h; cases h
  | some k =>
    rw [e] at h
    cases h
    refine i F φ S H σ env d S' R E h1 _ fun φ1 H1 v e1 R1 r1 => ⟨b, tru_of R1 r1 e, q φ1 H1 e1 R1⟩
/-- a constant of the module -/
def GC (K : Frg) (mg : Str → Option Value) (x : Str) (d : Val) : Prop := ∃ v u, mg x = some u ∧ RelV v u ∧ ∀ F φ H, RV K F φ H d v
theorem ei_gc {x : Str} {d : Val} (h : GC X.K X.mg x d) (hg : Gl X x) (hd : (x == ("__debug__" : Str)) = false := by decide) : EI X (.Name x pos) (mC d) := by
  obtain ⟨v, u, h1, h2, h3⟩ := h
  exact ei_glob hg h1 h2 h3 hd
theorem GC.str {K : Frg} {mg : Str → Option Value} {x z : Str} {t : Tok} (h : mg x = some (.str z t)) : GC K mg x (.str z) := ⟨.str z, _, h, ⟨t, rfl⟩, fun _ _ _ => rv_str⟩
theorem GC.int {K : Frg} {mg : Str → Option Value} {x : Str} {z : Int} {t : Tok} (h : mg x = some (.int z t)) : GC K mg x (.int z) := ⟨.int z, _, h, ⟨t, rfl⟩, fun _ _ _ => rv_int⟩
/-- written values that are ints, texts, None, truths -/
def wOf : Value → Option Val
  | .none => some .non
  | .bool b => some (.bl b)
  | .int i _ => some (.int i)
  | .str x _ => some (.str x)
  | _ => none
theorem w_of {u : Value} {d : Val} (h : wOf u = some d) : ∃ v, RelV v u ∧ ∀ (K : Frg) F φ H, RV K F φ H d v := by
  unfold wOf at h
  split at h
  · cases h; exact ⟨.non, rfl, fun _ _ _ _ => rv_non⟩
  · cases h; exact ⟨.bl _, rfl, fun _ _ _ _ => rv_bl⟩
  · cases h; exact ⟨.int _, ⟨_, rfl⟩, fun _ _ _ _ => rv_int⟩
  · cases h; exact ⟨.str _, ⟨_, rfl⟩, fun _ _ _ _ => rv_str⟩
  · cases h
theorem w_all : ∀ {us : List Value} {ds : List Val}, mapO wOf us = some ds → ∃ vs, Vals vs us ∧ ∀ (K : Frg) F φ H, RVs K F φ H ds vs
  | [], ds, h => by
    unfold mapO at h
    cases h
    exact ⟨[], .nil, fun _ _ _ _ => .nil⟩
  | u :: us, ds, h => by
    unfold mapO at h
    cases q : wOf u with
    | none => rw [q] at h; cases h
    | some d =>
      rw [q] at h
      simp only [Option.bind_some] at h
      cases q2 : mapO wOf us with
      | none => rw [q2] at h; cases h
      | some ds' =>
        rw [q2] at h
        cases h
        obtain ⟨v, h1, h2⟩ := w_of q
        obtain ⟨vs, h3, h4⟩ := w_all q2
        exact ⟨v :: vs, .cons h1 h3, fun K F φ H => .cons (h2 K F φ H) (h4 K F φ H)⟩
/-- a tuple of the module -/
theorem GC.tup {K : Frg} {mg : Str → Option Value} {x : Str} {p : Addr} {cl dd dt sl} {its : Array Value} {n : Nat} {ds : List Val} (h : mg x = some (.ref p)) (l : K.lookup p = some ⟨cl, dd, dt, sl⟩) (hc : cl = .type "tuple") (hd : dt = .seq its n) (hz : its.size ≤ sizeLine) (w : mapO wOf its.toList = some ds) : GC K mg x (.tup ds) := by
  obtain ⟨vs, h1, h2⟩ := w_all w
  refine ⟨.ref p, _, h, rfl, fun F φ H => ?_⟩
  unfold RV
  exact ⟨p, vs, rfl, .inr ⟨_, its, n, l, hc, hd, hz, h1⟩, h2 K F φ H⟩

/-! ### promises by name -/
def Df (K : Frg) (mg : Str → Option Value) (x : Str) (st : Stmt) : Prop := ∃ f fd, Fun K x x st f fd ∧ mg x = some (.ref f)
def Has (P : Program) (w : World) (K : Frg) (mg : Str → Option Value) (base : Heap) (k : Nat) (x : Str) (st : Stmt) (ps : List Str) (M : MCall) : Prop :=
  ∃ f fd, Fun K x x st f fd ∧ mg x = some (.ref f) ∧ Binds K fd ps [] ∧ FnG P w K mg base k f fd ps (spM K ps.length M)
theorem has_of {P : Program} {w : World} {K : Frg} {mg : Str → Option Value} {base : Heap} {k : Nat} {x : Str} {st : Stmt} {N ps : List Str} {M : MCall} {m : MS} (D : Df K mg x st) (Sc : FnScope N ps (defScope st))
    (hb : ∀ (kV doc pm : Value) (an : Option Addr) (cdv ct : Value) (us : List Value), us.length = ps.length → bindArgs (PySem.W.fnOf x x (defArgs st) (defBody st) (defScope st) .none kV doc pm an cdv ct) ⟨us, []⟩ = pure (ps.zip us))
    (body : ∀ (f : Addr) (cdv : Value) (A : Around) (outer : List Env) (s : Shared) (H : Hp) (E : XK), Room k (A.deeper (envOfC x (defScope st) s.heap.objs.size f cdv)) → A.guards = some [] →
      BI (cx0 P w K mg base N x (defScope st) f cdv A outer s H E) (defBody st) m)
    (href : ∀ ds S d S', ds.length = ps.length → Wf S → refLtL S.length ds = true → M ds S = some (d, S') → ∃ n k d0 S0, S.length ≤ n ∧ runB N m ds S = some (d0, S0) ∧ Fin n k d0 S0 d S') : Has P w K mg base (k + 1) x st ps M := by
  obtain ⟨f, fd, Fu, g⟩ := D
  exact ⟨f, fd, Fu, g, Fu.binds hb, fi_mk Fu Sc (body f) href⟩
variable {j k n : Nat} {x : Str} {p : Pos} {e : Expr} {es : List Expr} {ms : MA} {M : MCall} {ps : List Str} {st : Stmt}
theorem ei_has (G : Has X.prog X.w X.K X.mg X.base j x st ps M) (hr : Room k X.A) (hj : j ≤ k) (hgd : X.A.guards = some []) (hg : Gl X x) (ha : AI X (e :: es) ms) (hn : ∀ env S ds S1, ms env S = some (ds, S1) → ds.length = ps.length) (hdb : (x == ("__debug__" : Str)) = false := by decide)
    (he : starEach (e :: es) X.env = (false, eval e X.env) :: starEach es X.env := by rfl) (hpl : (backTo pos (starEach es X.env)).any (·.1) = false := by rfl) : EI X (.Call (.Name x p) (e :: es) [] pos) (mCall M ms) := by
  obtain ⟨f, fd, Fu, g, b, F⟩ := G
  exact ei_go F hr hj hgd hg g Fu.kp b ha hn hdb he hpl
theorem ei_has0 (G : Has X.prog X.w X.K X.mg X.base j x st [] M) (hr : Room k X.A) (hj : j ≤ k) (hgd : X.A.guards = some []) (hg : Gl X x) (hdb : (x == ("__debug__" : Str)) = false := by decide) : EI X (.Call (.Name x p) [] [] pos) (mCall M mNil) := by
  obtain ⟨f, fd, Fu, g, b, F⟩ := G
  exact ei_go0 F hr hj hgd hg g Fu.kp b hdb
theorem ei_hasK {ks : List Str} {ix : List Nat} {kws : List Keyword} {a' : Nat} {mk : MA} (G : Has X.prog X.w X.K X.mg X.base j x st ps M) (hr : Room k X.A) (hj : j ≤ k) (hgd : X.A.guards = some []) (hg : Gl X x) (ha : AI X (e :: es) ms) (hkw : KI X kws mk)
    (hb : ∀ (kV doc pm : Value) (an : Option Addr) (cdv ct : Value) (us ws : List Value), us.length = a' → ws.length = ks.length → bindArgs (PySem.W.fnOf x x (defArgs st) (defBody st) (defScope st) .none kV doc pm an cdv ct) ⟨us, ks.zip ws⟩ = pure (ps.zip (pick ix (us ++ ws))))
    (la : ∀ env S ds S1, ms env S = some (ds, S1) → ds.length = a') (lk : ∀ env S ds S1, mk env S = some (ds, S1) → ds.length = ks.length) (hn : ∀ (l : List Val), l.length = a' + ks.length → (pick ix l).length = ps.length)
    (hall : (backToKw pos (keywordEach kws X.env)).all (·.1.isSome) = true := by rfl) (hks : (backToKw pos (keywordEach kws X.env)).filterMap (·.1) = ks := by rfl)
    (hdb : (x == ("__debug__" : Str)) = false := by decide) (he : starEach (e :: es) X.env = (false, eval e X.env) :: starEach es X.env := by rfl)
    (hpl : ((backTo pos (starEach (e :: es) X.env)).any (·.1) || (backToKw pos (keywordEach kws X.env)).any (·.1.isNone)) = false := by rfl) : EI X (.Call (.Name x p) (e :: es) kws pos) (mCall M (mKw ix ms mk)) := by
  obtain ⟨f, fd, Fu, g, b, F⟩ := G
  exact ei_goK F hr hj hgd hg g Fu.kp (kb_of Fu hb) ha hkw la lk (len_kw la lk hn) hall hks hdb he hpl
theorem ei_hasK0 {ks : List Str} {ix : List Nat} {kws : List Keyword} {mk : MA} (G : Has X.prog X.w X.K X.mg X.base j x st ps M) (hr : Room k X.A) (hj : j ≤ k) (hgd : X.A.guards = some []) (hg : Gl X x) (hkw : KI X kws mk)
    (hb : ∀ (kV doc pm : Value) (an : Option Addr) (cdv ct : Value) (us ws : List Value), us.length = 0 → ws.length = ks.length → bindArgs (PySem.W.fnOf x x (defArgs st) (defBody st) (defScope st) .none kV doc pm an cdv ct) ⟨us, ks.zip ws⟩ = pure (ps.zip (pick ix (us ++ ws))))
    (lk : ∀ env S ds S1, mk env S = some (ds, S1) → ds.length = ks.length) (hn : ∀ (l : List Val), l.length = 0 + ks.length → (pick ix l).length = ps.length)
    (hall : (backToKw pos (keywordEach kws X.env)).all (·.1.isSome) = true := by rfl) (hks : (backToKw pos (keywordEach kws X.env)).filterMap (·.1) = ks := by rfl)
    (hdb : (x == ("__debug__" : Str)) = false := by decide)
    (hpl : ((backTo pos (starEach [] X.env)).any (·.1) || (backToKw pos (keywordEach kws X.env)).any (·.1.isNone)) = false := by rfl) : EI X (.Call (.Name x p) [] kws pos) (mCall M (mKw ix mNil mk)) := by
  obtain ⟨f, fd, Fu, g, b, F⟩ := G
  exact ei_goK0 F hr hj hgd hg g Fu.kp (kb_of Fu hb) hkw lk (len_kw len_nil lk hn) hall hks hdb hpl
end

/-! ### a text's method, then != e.replace(..): a token is out behind a written text -/
section
variable {X : Cx}
def mRepl (y z : Str) (m : ME) : ME := fun env S => bnd (m env S) fun d S1 => match d with
  | .str x => if x.length + (x.length + 1) * z.length ≤ 16777216 then some (.str (Txt.replace x y z), S1) else none
  | _ => none
theorem im_repl {K : Frg} {to : TE} {m : ME} {y z : Str} (i : Im K to m) : Im K (CwR.tReplC to y z) (mRepl y z m) := fun F φ S H σ env d S' R E h Q q => by
  obtain ⟨d0, S1, h1, h⟩ := bnd_some h
  refine i F φ S H σ env d0 S1 R E h1 _ fun φ1 H1 v e1 R1 r1 => ?_
  cases d0 with
  | str x =>
    dsimp only at h
    split at h
    · rename_i hz
      cases h
      exact ⟨x, r1.str, hz, q φ1 H1 _ e1 R1 rv_str⟩
    · cases h
  | _ => cases h
theorem ti_joinNe {sep y z : Str} {e o : Expr} {k0 k1 k2 : Nat} {p0 p1 p2 ap ap2 cp cp2 pos : Pos} {me mo : ME} (he : EI X e me) (ho : EI X o mo) (hyz : (y == z) = false) (hu : X.A.units + 64 < cLine)
    (hst1 : starEach [e] X.env = (false, eval e X.env) :: starEach [] X.env := by rfl)
    (hbase1 : attributeBase (.Constant (.str sep) k0 p0) "join" X.env (eval (.Constant (.str sep) k0 p0) X.env) = eval (.Constant (.str sep) k0 p0) X.env := by rfl)
    (hfew : ((backTo cp (starEach [e] X.env)).all (fun x => !x.1) && (backToKw cp (keywordEach [] X.env)).all (fun x => x.1.isSome)
      && decide ([e].length + ([] : List Keyword).length + (if ([] : List Keyword).isEmpty then 0 else 1) < 30)) = true := by rfl)
    (hline1 : (ap.endLine == cp.line) = true := by rfl) (hplain : (backTo cp (starEach [] X.env)).any (·.1) = false := by rfl)
    (hst : starEach [.Constant (.str y) k1 p1, .Constant (.str z) k2 p2] X.env = [(false, eval (.Constant (.str y) k1 p1) X.env), (false, eval (.Constant (.str z) k2 p2) X.env)] := by rfl)
    (hbase : attributeBase o "replace" X.env (eval o X.env) = eval o X.env := by rfl) (hline : (ap2.endLine == cp2.line) = true := by rfl)
    (hm : behindInMarks .NotEq (.Call (.Attribute o "replace" ap2) [.Constant (.str y) k1 p1, .Constant (.str z) k2 p2] [] cp2) = false := by rfl) :
    TI X (.Compare (.Call (.Attribute (.Constant (.str sep) k0 p0) "join" ap) [e] [] cp) [.NotEq] [.Call (.Attribute o "replace" ap2) [.Constant (.str y) k1 p1, .Constant (.str z) k2 p2] [] cp2] pos)
      (mTest (mBin vNe (mMeth "str" vJoin (mC (.str sep)) (mCons me mNil)) (mRepl y z mo))) := by
  obtain ⟨te, pe, ie⟩ := he
  obtain ⟨to, po, io⟩ := ho
  obtain ⟨rj, mj, ij⟩ := (opm_join : OpM X "str.join" vJoin)
  obtain ⟨rn, on, inn⟩ := (op2_ne hu : Op2 X (compareOp .NotEq) vNe)
  have ih : Im X.K (tBM X.K "str" rj (tC (.str sep)) (tCons te tNil)) (mMeth "str" vJoin (mC (.str sep)) (mCons me mNil)) := fun F φ S H σ env d S' R E h Q a => by
    obtain ⟨d0, S1, h1, h⟩ := bnd_some h
    cases h1
    split at h
    · obtain ⟨as, S2, h2, h⟩ := bnd_some h
      refine ⟨by first | rfl | exact ty_of R (rv_str (b := sep)) rfl, ?_⟩
      refine im_cons ie (u := tNil) (ms := mNil) (fun F φ S H σ env ds S' R E h Q a => by cases h; exact a φ H [] Ext.refl R .nil) F φ S H σ env as S2 R E h2 _ fun φ2 H2 vs e2 R2 r2 => ?_
      exact ij F φ2 S2 H2 (.str sep) as (.str sep) vs d S' R2 rv_str r2 h Q (a.mono e2)
    · cases h
  refine ⟨tTest (tOp rn (tBM X.K "str" rj (tC (.str sep)) (tCons te tNil)) (CwR.tReplC to y z)), ⟨fun pins s σ H Q I h => ?_⟩, im_test (im_bin ih (im_repl io) inn)⟩
  -- the left side, with a token out
  have left : wpAny (model X.prog X.w) X.A (eval (.Call (.Attribute (.Constant (.str sep) k0 p0) "join" ap) [e] [] cp) X.env)
      (fun v s1 => 1 ≤ s1.toks ∧ ∃ x H1, Inv X pins σ H1 s1 ∧ RelV x v ∧ (CwR.tReplC to y z) σ H1 fun u H2 => rn x u H2 fun c H3 => ∃ k, c = .bl k ∧ Q k H3) X.xe s := by
    refine wpAny_Call_method_late hbase1 hfew hline1 rfl (Calls.Constant_str ?_)
    obtain ⟨ty, h⟩ := h
    have I1 : Inv X pins σ H { s with toks := s.toks + 1 } := I.tok _
    have rs : RelV (.str sep) (.str sep s.toks) := ⟨s.toks, rfl⟩
    obtain ⟨g1, g2⟩ := tyV_is I1 rs ty
    refine ⟨"str", _, PySem.F.plainAttrs_str, PySem.F.slot_str_join, PySem.F.type_str_join, g1, g2, ?_⟩
    have hA := (pa_cons (X := X) pe pa_nil hst1).run cp pins { s with toks := s.toks + 1 } σ H _ I1 h
    rw [hst1] at hA ⊢
    refine Calls.callWith_builtin (by show (false || (backTo cp (starEach [] X.env)).any (·.1)) = false; rw [hplain]; rfl) (Calls.evalArgs_plain ?_)
    refine wpAny_mono (PySem.wpAny_toks hA) (fun us s2 q => ?_) fun _ _ z => z.2
    obtain ⟨hk, vs, H2, I2, r2, q2⟩ := q
    refine wpAny_mono (PySem.wpAny_toks (mj pins s2 σ H2 (.str sep) vs (.str sep s.toks) us _ I2 rs r2 q2)) (fun v s3 q => ?_) fun _ _ z => z.2
    obtain ⟨hk3, x, H3, I3, r3, q3⟩ := q
    have hk' : s.toks + 1 ≤ s2.toks := hk
    exact ⟨by omega, x, H3, I3, r3, q3⟩
  refine wpAny_isTrue_Compare1 (thn left fun v s1 q1 => ?_) hm
  obtain ⟨hk, x, H1, I1, r1, q1⟩ := q1
  refine thn (CwR.pet_replC (X := X) po hyz hst hbase hline pins s1 σ H1 _ hk I1 q1) fun u s2 q2 => ?_
  obtain ⟨y', H2, I2, r2, q2⟩ := q2
  refine thn (on pins s2 σ H2 x y' v u _ I2 r1 r2 q2) fun c s3 q3 => ?_
  obtain ⟨z', H3, I3, r3, k, e', q3⟩ := q3
  subst e'
  cases r3
  exact wpAny_truthy_bool ⟨H3, I3, q3⟩
end
end Fx
/-! A def's meaning as its body's run; lemmas on texts and places. -/
namespace Fx
open PySem PySem.Spec PyProof.Rows L2
/-- the body's run, what it laid behind the first |S| + e cells frozen -/
noncomputable def genM (e k : Nat) (N : List Str) (m : MS) : MCall := fun ds S => (runB N m ds S).bind fun r =>
  if S.length + e ≤ r.2.length then (frz r.2 (S.length + e) k r.1).bind fun d => (mapO (frzC r.2 (S.length + e) k) (r.2.take (S.length + e))).map fun S' => (d, S') else none
theorem ref_gen {e k n : Nat} {N : List Str} {m : MS} : ∀ ds S d S', ds.length = n → Wf S → refLtL S.length ds = true → genM e k N m ds S = some (d, S') → ∃ n k d0 S0, S.length ≤ n ∧ runB N m ds S = some (d0, S0) ∧ Fin n k d0 S0 d S' := by
  intro ds S d S' _ _ _ h
  unfold genM at h
  cases q : runB N m ds S with
  | none => rw [q] at h; cases h
  | some r =>
    obtain ⟨d0, S0⟩ := r
    rw [q] at h
    simp only [Option.bind_some] at h
    split at h
    · rename_i hl
      cases q1 : frz S0 (S.length + e) k d0 with
      | none => rw [q1] at h; cases h
      | some d1 =>
        rw [q1] at h
        simp only [Option.bind_some] at h
        cases q2 : mapO (frzC S0 (S.length + e) k) (S0.take (S.length + e)) with
        | none => rw [q2] at h; cases h
        | some S1 =>
          rw [q2] at h
          cases h
          exact ⟨S.length + e, k, d0, S0, by omega, rfl, hl, q1, q2⟩
    · cases h
theorem gen_of {e k : Nat} {N : List Str} {m : MS} {ds : List Val} {S S1 J : Store} {d0 d : Val} (hr : runB N m ds S = some (d0, S1 ++ J)) (hl : S1.length = S.length + e) (w : Wf S1) (hf : frz (S1 ++ J) S1.length (k + 1) d0 = some d) : genM e (k + 1) N m ds S = some (d, S1) := by
  obtain ⟨f1, f2, f3⟩ := Fin.pure w hf
  unfold genM
  rw [hr]
  simp only [Option.bind_some]
  rw [← hl, if_pos f1, f2]
  simp only [Option.bind_some]
  rw [f3]
  rfl
theorem gen_id {k : Nat} {N : List Str} {m : MS} {ds : List Val} {S S1 J : Store} {d : Val} (hr : runB N m ds S = some (d, S1 ++ J)) (hl : S1.length = S.length) (w : Wf S1) (hf : refLt S1.length d = true) : genM 0 (k + 1) N m ds S = some (d, S1) :=
  gen_of hr (by omega) w (frz_id hf)
theorem gen_id0 {k : Nat} {N : List Str} {m : MS} {ds : List Val} {S S1 : Store} {d : Val} (hr : runB N m ds S = some (d, S1)) (hl : S1.length = S.length) (w : Wf S1) (hf : refLt S1.length d = true) : genM 0 (k + 1) N m ds S = some (d, S1) :=
  gen_id (J := []) (by rw [List.append_nil]; exact hr) hl w hf

mutual
theorem refLt_le {n m : Nat} (h : n ≤ m) : ∀ d : Val, refLt n d = true → refLt m d = true
  | .non, _ => by unfold refLt; rfl
  | .bl _, _ => by unfold refLt; rfl
  | .int _, _ => by unfold refLt; rfl
  | .str _, _ => by unfold refLt; rfl
  | .raw _, _ => by unfold refLt; rfl
  | .ref i, q => by unfold refLt at q ⊢; rw [decide_eq_true_eq] at q ⊢; omega
  | .tup l, q => by unfold refLt at q ⊢; exact refLtL_le h l q
  | .fro l, q => by unfold refLt at q ⊢; exact refLtL_le h l q
  | .scr l, q => by unfold refLt at q ⊢; exact refLtL_le h l q
  | .obj _ _ l, q => by unfold refLt at q ⊢; exact refLtL_le h l q
theorem refLtL_le {n m : Nat} (h : n ≤ m) : ∀ l : List Val, refLtL n l = true → refLtL m l = true
  | [], _ => by unfold refLtL; rfl
  | d :: ds, q => by
    unfold refLtL at q ⊢
    rw [Bool.and_eq_true] at q ⊢
    exact ⟨refLt_le h d q.1, refLtL_le h ds q.2⟩
end
theorem refLtC_le {n m : Nat} (h : n ≤ m) (c : Cell) (q : refLtC n c = true) : refLtC m c = true := by
  cases c with
  | lst l => exact refLtL_le h l q
  | ins C ks vs => exact refLtL_le h vs q
theorem Wf.nil : Wf [] := fun i c h => by simp at h
theorem Wf.app {S J : Store} (w : Wf S) (h : ∀ c ∈ J, refLtC (S.length + J.length) c = true) : Wf (S ++ J) := fun i c q => by
  rw [List.length_append]
  by_cases hi : i < S.length
  · rw [List.getElem?_append_left hi] at q
    exact refLtC_le (by omega) c (w i c q)
  · rw [List.getElem?_append_right (by omega)] at q
    exact h c (List.mem_of_getElem? q)
theorem Wf.lst {S : Store} {l : List Val} (w : Wf S) (h : refLtL S.length l = true) : Wf (S ++ [.lst l]) := w.app fun c hc => by
  rw [List.mem_singleton.mp hc]
  exact refLtL_le (by simp) l h
theorem Wf.set {S : Store} {i : Nat} {c : Cell} (w : Wf S) (h : refLtC S.length c = true) : Wf (S.set i c) := fun j d q => by
  rw [List.length_set]
  by_cases hj : i = j
  · subst hj
    by_cases hl : i < S.length
    · rw [List.getElem?_set_self hl] at q
      cases q
      exact h
    · rw [List.getElem?_eq_none (by rw [List.length_set]; omega)] at q
      cases q
  · rw [List.getElem?_set_ne hj] at q
    exact w j d q
@[simp] theorem refLtL_nil {n : Nat} : refLtL n [] = true := by unfold refLtL; rfl
@[simp] theorem refLtL_cons {n : Nat} {d : Val} {ds : List Val} : refLtL n (d :: ds) = (refLt n d && refLtL n ds) := by rw [refLtL]
@[simp] theorem refLt_int {n : Nat} {i : Int} : refLt n (.int i) = true := by unfold refLt; rfl
@[simp] theorem refLt_str {n : Nat} {i : Str} : refLt n (.str i) = true := by unfold refLt; rfl
@[simp] theorem refLt_bl {n : Nat} {i : Bool} : refLt n (.bl i) = true := by unfold refLt; rfl
@[simp] theorem refLt_non {n : Nat} : refLt n .non = true := by unfold refLt; rfl
@[simp] theorem refLt_tup {n : Nat} {l : List Val} : refLt n (.tup l) = refLtL n l := by rw [refLt]
@[simp] theorem refLt_fro {n : Nat} {l : List Val} : refLt n (.fro l) = refLtL n l := by rw [refLt]
@[simp] theorem refLt_scr {n : Nat} {l : List Val} : refLt n (.scr l) = refLtL n l := by rw [refLt]
@[simp] theorem refLt_ref {n i : Nat} : refLt n (.ref i) = decide (i < n) := by rw [refLt]
theorem refLtL_map {α : Type} {n : Nat} {f : α → Val} (h : ∀ x, refLt n (f x) = true) : ∀ l : List α, refLtL n (l.map f) = true
  | [] => by simp
  | x :: xs => by simp [h x, refLtL_map h xs]
@[simp] theorem refLtL_ints {n : Nat} (l : List Int) : refLtL n (l.map Val.int) = true := refLtL_map (fun _ => refLt_int) l
/-! ### texts -/
def sL (l : List Nat) : Str := ⟨l.toArray⟩
@[simp] theorem cps_sL (l : List Nat) : (sL l).cps.toList = l := rfl
@[simp] theorem len_sL (l : List Nat) : (sL l).length = l.length := rfl
theorem len_cps (z : Str) : z.length = z.cps.toList.length := by simp [Str.length]
@[simp] theorem sL_cps (z : Str) : sL z.cps.toList = z := by cases z; simp [sL]
theorem str_ext {x y : Str} (h : x.cps.toList = y.cps.toList) : x = y := by rw [← sL_cps x, ← sL_cps y, h]
theorem sL_inj {l m : List Nat} : sL l = sL m ↔ l = m := ⟨fun h => by rw [← cps_sL l, ← cps_sL m, h], fun h => by rw [h]⟩
theorem sL_app (l m : List Nat) : sL l ++ sL m = sL (l ++ m) := str_ext (by
  show (l.toArray ++ m.toArray).toList = _
  simp)
theorem atI_nat {α : Type} (l : List α) (k : Nat) : L2.atI l (k : Int) = l[k]? := by
  unfold L2.atI ixN
  rw [if_pos (by omega)]
  by_cases h : k < l.length
  · rw [if_pos (by omega)]
    simp
  · rw [if_neg (by omega), List.getElem?_eq_none (by omega)]
    rfl
theorem atI_last {α : Type} (l : List α) (h : l ≠ []) : L2.atI l (-1) = l.getLast? := by
  have hl : 0 < l.length := List.length_pos_iff.mpr h
  unfold L2.atI ixN
  rw [if_neg (by omega), if_pos (by omega), Option.bind_some, List.getLast?_eq_getElem?]
  congr 1
  omega
theorem cutS_nat (z : Str) (a b : Nat) : cutS z (some (a : Int)) (some (b : Int)) = sL ((z.cps.toList.drop a).take (b - a)) := by
  apply str_ext
  unfold cutS
  rw [HT.sIx_nat, HT.sIx_nat, cps_sL, len_cps]
  show ((z.cps.toList.drop (min a _)).take (min b _ - min a _)) = _
  by_cases ha : a ≤ z.cps.toList.length
  · rw [Nat.min_eq_left ha]
    by_cases hb : b ≤ z.cps.toList.length
    · rw [Nat.min_eq_left hb]
    · rw [Nat.min_eq_right (by omega), List.take_of_length_le (by rw [List.length_drop]; omega), List.take_of_length_le (by rw [List.length_drop]; omega)]
  · rw [show min a z.cps.toList.length = z.cps.toList.length by omega, List.drop_length, List.drop_eq_nil_of_le (as := z.cps.toList) (i := a) (by omega)]
    simp
theorem cutD_to (l : List Val) (b : Nat) : cutD l none (some (b : Int)) = l.take b := by
  unfold cutD
  rw [HT.sIx_nat, HT.sIx_none, List.drop_zero, Nat.sub_zero]
  by_cases hb : b ≤ l.length
  · rw [Nat.min_eq_left hb]
  · rw [Nat.min_eq_right (by omega), List.take_length, List.take_of_length_le (by omega)]
@[simp] theorem at_len (S : Store) (c : Cell) : (S ++ [c])[S.length]? = some c := by simp
@[simp] theorem set_len (S : Store) (c c' : Cell) : (S ++ [c]).set S.length c' = S ++ [c'] := by
  rw [List.set_append_right _ _ (Nat.le_refl _), Nat.sub_self]
  rfl
/-! ### the join and the replacement of one sign by nothing -/
theorem repl_del (c : Nat) : ∀ l : List Nat, StrLaws.replL [c] [] l = l.filter fun x => x != c
  | [] => by rw [StrLaws.replL_nil]; rfl
  | x :: xs => by
    by_cases h : x = c
    · subst h
      rw [StrLaws.replL_hit (by simp) (by simp), List.nil_append, List.filter_cons_of_neg (by simp)]
      show StrLaws.replL [x] [] xs = _
      exact repl_del x xs
    · rw [StrLaws.replL_miss (by simp [h]), List.filter_cons_of_pos (by simp [h]), repl_del c xs]
theorem replace_del {x y : Str} {c : Nat} (h : y.cps.toList = [c]) : Txt.replace x y (Str.ofString "") = sL (x.cps.toList.filter fun a => a != c) := by
  apply str_ext
  rw [StrLaws.replace_list (by rw [len_cps, h]; exact Nat.le_refl _), h, cps_sL, ← repl_del c]
  rfl
theorem glueL_nil : ∀ ys : List Str, StrLaws.glueL [] ys = (ys.map fun y => y.cps.toList).flatten
  | [] => rfl
  | y :: ys => by
    rw [StrLaws.glueL, glueL_nil ys]
    simp
theorem join_nil (ys : List Str) : Txt.join (Str.ofString "") ys = sL ((ys.map fun y => y.cps.toList).flatten) := by
  apply str_ext
  rw [cps_sL]
  cases ys with
  | nil => rfl
  | cons y ys =>
    show (Builtin.Str.glued _ (y :: ys)).cps.toList = _
    rw [StrLaws.glued_list, StrLaws.glueT]
    rw [show (Str.ofString "").cps.toList = [] from rfl, glueL_nil]
    simp
end Fx
/-! The meanings' equations, for simp. -/
namespace Fx
open PySem PySem.Spec PyProof.Rows L2
section
variable (env : VEnv) (S : Store) (m n : MS) (e e2 e3 : ME) (t u : MT) (ms ms2 : MA) (f : M1) (g g2 : M2) (mg : MG) (mgs : MGs) (a b d : Val) (o1 o2 : MO) (sl : MSl) (c : MCall)
@[simp] theorem s_then : mThen m n env S = bnd (m env S) fun o S1 => match o with
  | .nx e => n e S1
  | .rt d => some (.rt d, S1)
  | .bk e => some (.bk e, S1)
  | .ct e => some (.ct e, S1) := nr rfl
@[simp] theorem s_skip : mSkip env S = some (.nx env, S) := nr rfl
@[simp] theorem s_set : mSet e mg env S = bnd (e env S) fun d S1 => bnd (mg d env S1) fun e S2 => some (.nx e, S2) := nr rfl
@[simp] theorem s_when : mWhen t m n env S = bnd (t env S) fun b S1 => if b = true then m env S1 else n env S1 := nr rfl
@[simp] theorem s_ret : mRet e env S = bnd (e env S) fun d S1 => some (.rt d, S1) := nr rfl
@[simp] theorem s_retN : mRetN env S = some (.rt .non, S) := nr rfl
@[simp] theorem s_do : mDo e env S = bnd (e env S) fun _ S1 => some (.nx env, S1) := nr rfl
@[simp] theorem s_bk : mBk env S = some (.bk env, S) := nr rfl
@[simp] theorem s_ct : mCt env S = some (.ct env, S) := nr rfl
@[simp] theorem s_par (i j : Nat) : mPar i j ms env S = bnd (ms env S) fun ds S1 => match ds with
  | [a, b] => some (.nx ((env.set i (some a)).set j (some b)), S1)
  | _ => none := nr rfl
@[simp] theorem s_par3 (i j l : Nat) : mPar3 i j l ms env S = bnd (ms env S) fun ds S1 => match ds with
  | [a, b, c] => some (.nx (((env.set i (some a)).set j (some b)).set l (some c)), S1)
  | _ => none := nr rfl
@[simp] theorem s_test : mTest e env S = bnd (e env S) fun d S1 => match d with | .bl b => some (b, S1) | _ => none := nr rfl
@[simp] theorem s_and : mAnd t u env S = bnd (t env S) fun b S1 => if b = true then u env S1 else some (false, S1) := nr rfl
@[simp] theorem s_or : mOr t u env S = bnd (t env S) fun b S1 => if b = true then some (true, S1) else u env S1 := nr rfl
@[simp] theorem s_not : mNot t env S = bnd (t env S) fun b S1 => some (!b, S1) := nr rfl
@[simp] theorem s_yes : mYes env S = some (true, S) := nr rfl
@[simp] theorem s_andV : mAndV e e2 env S = bnd (mTest e env S) fun b S1 => if b = true then e2 env S1 else some (.bl false, S1) := nr rfl
@[simp] theorem s_orV : mOrV e e2 env S = bnd (mTest e env S) fun b S1 => if b = true then some (.bl true, S1) else e2 env S1 := nr rfl
@[simp] theorem s_notV : mNotV e env S = bnd (mTest e env S) fun b S1 => some (.bl (!b), S1) := nr rfl
@[simp] theorem s_bin : mBin g e e2 env S = bnd (e env S) fun x S1 => bnd (e2 env S1) fun y S2 => g x y S2 := nr rfl
@[simp] theorem s_un : mUn f e env S = bnd (e env S) fun x S1 => f x S1 := nr rfl
@[simp] theorem s_var (i : Nat) : mVar i env S = match env[i]? with | some (some d) => some (d, S) | _ => none := nr rfl
@[simp] theorem s_c : mC d env S = some (d, S) := nr rfl
@[simp] theorem s_nil : mNil env S = some ([], S) := nr rfl
@[simp] theorem s_cons : mCons e ms env S = bnd (e env S) fun d S1 => bnd (ms env S1) fun ds S2 => some (d :: ds, S2) := nr rfl
@[simp] theorem s_tup : mTup ms env S = bnd (ms env S) fun ds S1 => if ds.length ≤ sizeLine then some (.tup ds, S1) else none := nr rfl
@[simp] theorem s_fro : mFro ms env S = bnd (ms env S) fun ds S1 => if ds.length ≤ sizeLine then some (.fro ds, S1) else none := nr rfl
@[simp] theorem s_lst : mLst ms env S = bnd (ms env S) fun ds S1 => if ds.length ≤ sizeLine then some (.ref S1.length, S1 ++ [.lst ds]) else none := nr rfl
@[simp] theorem s_call : mCall c ms env S = bnd (ms env S) fun ds S1 => c ds S1 := nr rfl
@[simp] theorem s_if : mIf t e e2 env S = bnd (t env S) fun b S1 => if b = true then e env S1 else e2 env S1 := nr rfl
@[simp] theorem s_no : mNo env S = some (none, S) := nr rfl
@[simp] theorem s_part : mPart e env S = bnd (e env S) fun d S1 => match d with
  | .int i => some (some i, S1)
  | _ => none := nr rfl
@[simp] theorem s_sl : mSl sl e o1 o2 env S = bnd (e env S) fun d S1 => bnd (o1 env S1) fun lo S2 => bnd (o2 env S2) fun hi S3 => sl d lo hi S3 := nr rfl
@[simp] theorem s_rev (k : Bool) : mRev k e env S = bnd (e env S) fun d S1 => (lstOf S1 d).map fun l => mk k l.reverse S1 := nr rfl
@[simp] theorem s_meth (T : String) (h : MMt) : mMeth T h e ms env S = bnd (e env S) fun a S1 => if tyD T S1 a = true then bnd (ms env S1) fun as S2 => h a as S2 else none := nr rfl
@[simp] theorem s_chain : mChain g g2 e e2 e3 env S = bnd (e env S) fun x S1 => bnd (e2 env S1) fun y S2 => bnd (g x y S2) fun z S3 => match z with
  | .bl k => if k = true then bnd (e3 env S3) fun w S4 => g2 y w S4 else some (.bl false, S3)
  | _ => none := nr rfl
@[simp] theorem s_tru : mTru e env S = bnd (e env S) fun d S1 => (truD S1 d).map fun b => (b, S1) := nr rfl
@[simp] theorem s_gn (i : Nat) : gN i d env S = some (env.set i (some d), S) := nr rfl
@[simp] theorem s_gt (k : Nat) (l : List Val) : gT k mgs (.tup l) env S = if l.length = k then mgs l env S else none := nr rfl
@[simp] theorem s_gnil : gNil' [] env S = some (env, S) := nr rfl
@[simp] theorem s_gcons (ds : List Val) : gCons' mg mgs (d :: ds) env S = bnd (mg d env S) fun e S1 => mgs ds e S1 := nr rfl
@[simp] theorem s_gix : gIx e e2 d env S = bnd (e env S) fun o S1 => bnd (e2 env S1) fun i S2 => match o, i with
  | .ref k, .int j => match S2[k]? with
    | some (.lst l) => (ixN l.length j).map fun n => (env, S2.set k (.lst (l.set n d)))
    | _ => none
  | _, _ => none := nr rfl
@[simp] theorem s_items : mItems e env S = bnd (e env S) fun d S1 => match d with
  | .tup l => some (l, S1)
  | .str z => some (signs z, S1)
  | d => (froOf d).map fun l => (l, S1) := nr rfl
@[simp] theorem s_for (mi : MA) : mFor mi mg m env S = bnd (mi env S) fun items S1 => forL mg m items env S1 := nr rfl
@[simp] theorem s_kw (ix : List Nat) : mKw ix ms ms2 env S = bnd (ms env S) fun ds S1 => bnd (ms2 env S1) fun es S2 => some (pick ix (ds ++ es), S2) := nr rfl
@[simp] theorem s_repl (y z : Str) : mRepl y z e env S = bnd (e env S) fun d S1 => match d with
  | .str x => if x.length + (x.length + 1) * z.length ≤ 16777216 then some (.str (Txt.replace x y z), S1) else none
  | _ => none := nr rfl
@[simp] theorem s_lc (k : Bool) (vs : List Nat) (mi : MA) : mLc k vs mi mg t e env S = bnd (mi env S) fun items S1 => bnd (lcL mg t e (wipeE env vs) items S1) fun ds S2 => if ds.length ≤ sizeLine then some (mk k ds S2) else none := nr rfl
theorem wh_s (k : Nat) : whN t m (k + 1) env S = bnd (t env S) fun q S1 => if q = true then bnd (m env S1) fun o S2 => match o with
    | .nx e => whN t m k e S2
    | .ct e => whN t m k e S2
    | .bk e => some (.nx e, S2)
    | .rt d => some (.rt d, S2)
    else some (.nx env, S1) := nr rfl
theorem for_nil : forL mg m [] env S = some (.nx env, S) := nr rfl
theorem for_cons (x : Val) (xs : List Val) : forL mg m (x :: xs) env S = bnd (mg x env S) fun env1 S1 => bnd (m env1 S1) fun o S2 => match o with
    | .nx e => forL mg m xs e S2
    | .ct e => forL mg m xs e S2
    | .bk e => some (.nx e, S2)
    | .rt d => some (.rt d, S2) := nr rfl
theorem lc_nil : lcL mg t e env [] S = some ([], S) := nr rfl
theorem lc_cons (x : Val) (xs : List Val) : lcL mg t e env (x :: xs) S = bnd (mg x env S) fun env1 S1 => bnd (t env1 S1) fun b S2 =>
    if b = true then bnd (e env1 S2) fun d S3 => bnd (lcL mg t e env xs S3) fun ds S4 => some (d :: ds, S4) else lcL mg t e env xs S2 := nr rfl
-- values
variable (i j : Int) (x y : Str) (l : List Val)
@[simp] theorem v_addI : vAdd (.int i) (.int j) S = some (.int (i + j), S) := nr rfl
@[simp] theorem v_addS : vAdd (.str x) (.str y) S = if x.length + y.length ≤ sizeLine then some (.str (x ++ y), S) else none := nr rfl
@[simp] theorem v_sub : vSub (.int i) (.int j) S = some (.int (i - j), S) := nr rfl
@[simp] theorem v_mul : vMul (.int i) (.int j) S = if CMul i j then some (.int (i * j), S) else none := nr rfl
theorem v_mulS (n : Nat) (h : 2 ≤ n) (h2 : n < 1000000) (hx : 1 ≤ x.length) (hx2 : x.length * n ≤ sizeLine) : vMul (.str x) (.int (n : Int)) S = some (.str (repS x n), S) := by
  show (if _ then _ else _) = _
  rw [if_pos (by refine ⟨by omega, by omega, hx, ?_⟩; rw [Int.toNat_natCast]; exact hx2), Int.toNat_natCast]
@[simp] theorem v_mod : vMod (.int i) (.int j) S = if j ≠ 0 then some (.int (i.fmod j), S) else none := by
  show ((if j ≠ 0 then some (Val.int (i.fmod j)) else none).map fun d => (d, S)) = _
  split <;> rfl
@[simp] theorem v_div : vDiv (.int i) (.int j) S = if CDivN i j then some (.int (i.fdiv j), S) else none := by
  show ((if CDivN i j then some (Val.int (i.fdiv j)) else none).map fun d => (d, S)) = _
  split <;> rfl
@[simp] theorem v_pow : vPow (.int i) (.int j) S = if CPow i j then some (.int (i ^ j.toNat), S) else none := by
  show ((if CPow i j then some (Val.int (i ^ j.toNat)) else none).map fun d => (d, S)) = _
  split <;> rfl
@[simp] theorem v_ltI : vLt (.int i) (.int j) S = some (.bl (decide (i < j)), S) := nr rfl
@[simp] theorem v_leI : vLe (.int i) (.int j) S = some (.bl (decide (i ≤ j)), S) := nr rfl
@[simp] theorem v_gtI : vGt (.int i) (.int j) S = some (.bl (decide (j < i)), S) := nr rfl
@[simp] theorem v_geI : vGe (.int i) (.int j) S = some (.bl (decide (j ≤ i)), S) := nr rfl
@[simp] theorem v_leS : vLe (.str x) (.str y) S = some (.bl (!decide (y.cps.toList < x.cps.toList)), S) := nr rfl
@[simp] theorem v_eqI (k : Bool) : vEqN k (.int i) (.int j) S = some (.bl (if k then !decide (i = j) else decide (i = j)), S) := nr rfl
@[simp] theorem v_eqS (k : Bool) : vEqN k (.str x) (.str y) S = some (.bl (if k then !decide (x = y) else decide (x = y)), S) := nr rfl
@[simp] theorem v_neg : vNeg (.int i) S = some (.int (-i), S) := nr rfl
@[simp] theorem v_ixS (k : Nat) : vIx (.str x) (.int (k : Int)) S = if x.length ≤ sizeLine then (x.cps.toList[k]?).map fun c => (.str ⟨#[c]⟩, S) else none := by rw [← atI_nat]; rfl
@[simp] theorem v_ixT (k : Nat) : vIx (.tup l) (.int (k : Int)) S = (l[k]?).map fun d => (d, S) := by rw [← atI_nat]; rfl
@[simp] theorem v_ixF (k : Nat) : vIx (.fro l) (.int (k : Int)) S = (l[k]?).map fun d => (d, S) := by rw [← atI_nat]; rfl
@[simp] theorem v_ixR (k r : Nat) : vIx (.ref r) (.int (k : Int)) S = (lstOf S (.ref r)).bind fun l => (l[k]?).map fun d => (d, S) := by simp only [← atI_nat]; rfl
@[simp] theorem v_ixT0 : vIx (.tup l) (.int 0) S = (l[0]?).map fun d => (d, S) := v_ixT S l 0
@[simp] theorem v_ixT1 : vIx (.tup l) (.int 1) S = (l[1]?).map fun d => (d, S) := v_ixT S l 1
@[simp] theorem v_ixT2 : vIx (.tup l) (.int 2) S = (l[2]?).map fun d => (d, S) := v_ixT S l 2
@[simp] theorem v_ixT3 : vIx (.tup l) (.int 3) S = (l[3]?).map fun d => (d, S) := v_ixT S l 3
@[simp] theorem v_ixR0 (r : Nat) : vIx (.ref r) (.int 0) S = (lstOf S (.ref r)).bind fun l => (l[0]?).map fun d => (d, S) := v_ixR S 0 r
@[simp] theorem v_ixR1 (r : Nat) : vIx (.ref r) (.int 1) S = (lstOf S (.ref r)).bind fun l => (l[1]?).map fun d => (d, S) := v_ixR S 1 r
@[simp] theorem v_slS (k k2 : Nat) (h : Bool) : vSl h (.str x) (some (k : Int)) (some (k2 : Int)) S = if x.length ≤ sizeLine then some (.str (sL ((x.cps.toList.drop k).take (k2 - k))), S) else none := by rw [← cutS_nat]; rfl
@[simp] theorem v_slT (h : Bool) (lo hi : Option Int) : vSl h (.tup l) lo hi S = some (.tup (cutD l lo hi), S) := nr rfl
@[simp] theorem v_lenS : vLen [.str x] S = if x.length ≤ sizeLine then some (.int (x.cps.toList.length : Nat), S) else none := by rw [← len_cps]; rfl
@[simp] theorem v_lenT : vLen [.tup l] S = some (.int (l.length : Nat), S) := nr rfl
@[simp] theorem v_lenF : vLen [.fro l] S = some (.int (l.length : Nat), S) := nr rfl
@[simp] theorem v_lenC : vLen [.scr l] S = some (.int (l.length : Nat), S) := nr rfl
@[simp] theorem v_absI : vAbs [.int i] S = some (.int (if i < 0 then -i else i), S) := nr rfl
@[simp] theorem v_intI : vInt [.int i] S = some (.int i, S) := nr rfl
@[simp] theorem v_intB (k : Bool) : vInt [.bl k] S = some (.int (if k then 1 else 0), S) := nr rfl
@[simp] theorem v_tupT : vTuple [.tup l] S = some (.tup l, S) := nr rfl
@[simp] theorem v_tupR (r : Nat) : vTuple [.ref r] S = (lstOf S (.ref r)).map fun l => (.tup l, S) := nr rfl
@[simp] theorem lst_ref (r : Nat) : lstOf S (.ref r) = match S[r]? with
    | some (.lst l) => some l
    | _ => none := nr rfl
@[simp] theorem lst_fro : lstOf S (.fro l) = some l := nr rfl
@[simp] theorem lst_scr : lstOf S (.scr l) = some l := nr rfl
@[simp] theorem v_app (r : Nat) : vAppend (.ref r) [d] S = match S[r]? with
    | some (.lst l) => if l.length < sizeLine then some (.non, S.set r (.lst (l ++ [d]))) else none
    | _ => none := nr rfl
@[simp] theorem v_pop (r : Nat) : vPop (.ref r) [] S = match S[r]? with
    | some (.lst l) => (l[l.length - 1]?).map fun d => (d, S.set r (.lst l.dropLast))
    | _ => none := nr rfl
@[simp] theorem v_inS (k : Bool) (c : Nat) : vIn k (.str ⟨#[c]⟩) (.str y) S = some (.bl (if k then !decide (c ∈ y.cps.toList) else decide (c ∈ y.cps.toList)), S) := nr rfl
@[simp] theorem v_inT (k : Bool) : vIn k (.str x) (.tup l) S = if (flatD (.str x) && l.all flatD) = true then some (.bl (if k then !inD (.str x) l else inD (.str x) l), S) else none := nr rfl
@[simp] theorem ty_list (r : Nat) : tyD "list" S (.ref r) = (lstOf S (.ref r)).isSome := by show ((lstOf S (.ref r)).isSome && _) = _; simp
@[simp] theorem ty_str : tyD "str" S (.str x) = true := nr rfl
@[simp] theorem v_slC (h : Bool) (lo hi : Option Int) : vSl h (.scr l) lo hi S = some (mk h (cutD l lo hi) S) := nr rfl
@[simp] theorem v_slF (h : Bool) (lo hi : Option Int) : vSl h (.fro l) lo hi S = some (mk h (cutD l lo hi) S) := nr rfl
@[simp] theorem fro_f : froOf (.fro l) = some l := nr rfl
@[simp] theorem fro_s : froOf (.scr l) = some l := nr rfl
theorem v_ixL (r : Nat) (hl : l ≠ []) (h : S[r]? = some (.lst l)) : vIx (.ref r) (.int (-1)) S = l.getLast?.map fun d => (d, S) := by
  rw [← atI_last l hl]
  show (lstOf S (.ref r)).bind _ = _
  rw [lst_ref, h]
  rfl
end
theorem cutD_60 (l : List Val) : cutD l none (some 60) = l.take 60 := cutD_to l 60
theorem cmul2 (x : Int) : CMul 2 x := .inl (by decide)
theorem toPyL_ints : ∀ xs : List Int, toPyL (xs.map Val.int) = some (xs.map PyData.int)
  | [] => by rw [List.map_nil, toPyL]; rfl
  | x :: xs => by
    rw [List.map_cons, toPyL, toPyL_ints xs]
    unfold toPy
    rfl
theorem shaped_ints (xs : List Int) : SeqAt.shaped (.list (xs.map PyData.int)) = true := by
  have h1 : ∀ xs : List Int, PyData.canLayAll0 (xs.map PyData.int) = true := fun xs => by
    induction xs with
    | nil => rfl
    | cons x xs ih => rw [List.map_cons, PyData.canLayAll0, ih]; rfl
  have h2 : ∀ xs : List Int, PyData.depthAll (xs.map PyData.int) = 0 := fun xs => by
    induction xs with
    | nil => rfl
    | cons x xs ih => rw [List.map_cons, PyData.depthAll, ih]; rfl
  unfold SeqAt.shaped
  rw [PyData.canLay0, h1, PyData.depth, h2]
  rfl
theorem v_nil {S : Store} {r : Nat} {xs : List Int} (k : Bool) (h : S[r]? = some (.lst (xs.map Val.int))) : vEqN k (.ref r) (.fro []) S = some (.bl (if k then !xs.isEmpty else xs.isEmpty), S) := by
  show (pyOf S (.ref r)).bind _ = _
  have e1 : pyOf S (.ref r) = some (.list (xs.map PyData.int)) := by
    have e0 : topV S (.ref r) = .fro (xs.map Val.int) := by
      show (match S[r]? with | some (.lst l) => Val.fro l | _ => .ref r) = _
      rw [h]
    unfold pyOf
    rw [e0]
    unfold toPy
    rw [toPyL_ints]
    rfl
  have e2 : pyOf S (.fro []) = some (.list []) := by
    unfold pyOf topV toPy toPyL
    rfl
  rw [e1, e2]
  show (if (SeqAt.shaped _ && SeqAt.shaped _) = true then _ else _) = _
  rw [shaped_ints, if_pos (by exact shaped_ints [])]
  have e3 : PyData.eqv (.list (xs.map PyData.int)) (.list []) = xs.isEmpty := by
    rw [PyData.eqv]
    cases xs <;> rfl
  rw [e3]
theorem pw62 : (2 : Int) ^ 62 = 4611686018427387904 := by decide
theorem in62 {m : Nat} (hm : m ≤ 1000000) : -(2 ^ 62 : Int) ≤ (m : Int) ∧ (m : Int) < 2 ^ 62 := by rw [pw62]; omega
theorem if62 {α : Type} {m : Nat} (hm : -(2 ^ 62 : Int) ≤ (m : Int) ∧ (m : Int) < 2 ^ 62) (x : α) : (if -(2 ^ 62 : Int) ≤ (m : Int) ∧ (m : Int) < 2 ^ 62 then some x else none) = some x := by rw [if_pos hm]
theorem rng1_if (ms : MA) (env S S') (j : Int) (h : ms env S = some ([.int j], S')) : mRng1 ms env S = if -(2 ^ 62) ≤ j ∧ j < 2 ^ 62 then some (rangeV 0 j.toNat, S') else none := by
  unfold mRng1
  rw [h, bnd_ok]
theorem rng1_of {ms : MA} {env S S'} {m : Nat} (hm : m ≤ 1000000) (h : ms env S = some ([.int (m : Int)], S')) : mRng1 ms env S = some (rangeV 0 m, S') := by
  rw [rng1_if _ _ _ _ _ h, if62 (in62 hm), Int.toNat_natCast]
theorem sign_sL (c : Nat) : (⟨#[c]⟩ : Str) = sL [c] := nr rfl
theorem startE_eq (N : List Str) (ds : List Val) : startE N ds = ds.map some ++ List.replicate (N.length - ds.length) none := nr rfl
end Fx
/-! More calls: isinstance, in (data), max, min, index, sorted; // by great numbers. -/
namespace Fx
open PySem PySem.Spec PyProof.Rows L2
section
variable {X : Cx}
/-- a built-in type as a value -/
theorem ei_ty {x : Str} {T : String} {pos : Pos} (hg : Gl X x) (hm : X.mg x = none) (hv : bootBuiltins x = some (.type T)) (hn : x ≠ "__name__" := by decide) (hd : (x == ("__debug__" : Str)) = false := by decide) : EI X (.Name x pos) (mC (.raw (.ty T))) := by
  refine ⟨_, pe_bltn (v := .ty T) hg hm hv rfl hn hd, fun F φ S H σ env d S' R E h Q a => ?_⟩
  cases h
  refine a φ H _ Ext.refl R ?_
  unfold RV
  rfl
def tyN (S : Store) : Val → Option String
  | .non => some "NoneType"
  | .bl _ => some "bool"
  | .int _ => some "int"
  | .str _ => some "str"
  | .tup _ => some "tuple"
  | .fro _ => some "list"
  | .scr _ => some "list"
  | .ref i => match S[i]? with
    | some (.lst _) => some "list"
    | _ => none
  | _ => none
theorem tyx_of {K : Frg} {F φ : List Addr} {S : Store} {H : Hp} {d : Val} {v : V} {T : String} (R : Rp K F φ S H) (r : RV K F φ H d v) (h : tyN S d = some T) : TyX K H v (.type T) := by
  have sq : ∀ {a : Addr} {xs : List V}, SqL K H a xs → TyX K H (.ref a) (.type "list") := fun {a xs} q => by
    rcases q with (q | ⟨o, q⟩) | ⟨o, its, n, hk, hc, _⟩
    · exact .base (.lst q)
    · exact .base (.frz q)
    · exact .kList hk hc
  cases d with
  | non => unfold tyN at h; cases h; rw [r.non]; exact .base .non
  | bl b => unfold tyN at h; cases h; rw [r.bl]; exact .base (.bl b)
  | int b => unfold tyN at h; cases h; rw [r.int]; exact .base (.int b)
  | str b => unfold tyN at h; cases h; rw [r.str]; exact .base (.str b)
  | tup l =>
    unfold tyN at h
    cases h
    unfold RV at r
    obtain ⟨a, xs, rfl, q, _⟩ := r
    rcases q with (q | ⟨o, q⟩) | ⟨o, its, n, hk, hc, _⟩
    · exact .base (.tup q)
    · exact .fTuple q
    · exact .kTuple hk hc
  | fro l =>
    unfold tyN at h
    cases h
    obtain ⟨a, xs, rfl, q, _⟩ := lst_of (S := S) R rfl r
    exact sq q
  | scr l =>
    unfold tyN at h
    cases h
    obtain ⟨a, xs, rfl, q, _⟩ := lst_of (S := S) R rfl r
    exact sq q
  | ref i =>
    unfold tyN at h
    dsimp only at h
    split at h
    · rename_i l q
      cases h
      obtain ⟨a, xs, rfl, q2, _⟩ := lst_of (S := S) (d := .ref i) (l := l) R (by show (match S[i]? with | some (.lst l) => some l | _ => none) = _; rw [q]) r
      exact sq q2
    · cases h
  | obj _ _ _ => unfold tyN at h; cases h
  | raw _ => unfold tyN at h; cases h
def vIsi : MCall := fun as S => match as with
  | [a, .raw (.ty T)] => (tyN S a).bind fun t => (kitB t T).map fun b => (.bl b, S)
  | _ => none
theorem opc_isi : OpC X (.builtin "isinstance") vIsi := by
  refine ⟨_, call_isi, fun F φ S H as xs d S' R r e Q q => ?_⟩
  unfold vIsi at e
  split at e
  · rename_i a T
    obtain ⟨v, ws, h1, h2, h3⟩ := r.inv
    obtain ⟨v', ws', h1', h2', h3'⟩ := h3.inv
    unfold RV at h2'
    subst h2'
    cases e0 : tyN S a with
    | none => rw [e0] at e; cases e
    | some t =>
      rw [e0] at e
      simp only [Option.bind_some] at e
      cases e1 : kitB t T with
      | none => rw [e1] at e; cases e
      | some b =>
        rw [e1] at e
        cases e
        exact ⟨v, .ty T, .type t, .type T, b, by rw [h1, h1', h3'.inv0], .ty T, tyx_of R h2 e0, kit_ty e1, q.now R rv_bl⟩
  · cases e
/-- in, any data in a list -/
def vInD (neg : Bool) : M2 := fun a b S => (pyOf S a).bind fun d => (lstOf S b).bind fun l => (toPyL l).bind fun ds => if (SeqAt.shaped d && SeqAt.shaped (.list ds)) = true then some (.bl (if neg then !(ds.any fun z => PyData.eqv z d) else ds.any fun z => PyData.eqv z d), S) else none
def vIn2 (neg : Bool) : M2 := fun a b S => (vIn neg a b S).or (vInD neg a b S)
theorem dp_top {K : Frg} {F φ : List Addr} {S : Store} {H : Hp} {d : Val} {v : V} {p : PyData} (R : Rp K F φ S H) (r : RV K F φ H d v) (h : pyOf S d = some p) : Dp K H v p := by
  unfold pyOf at h
  cases d with
  | ref i =>
    unfold topV at h
    dsimp only at h
    split at h
    · rename_i l q
      unfold toPy at h
      cases q2 : toPyL l with
      | none => rw [q2] at h; cases h
      | some ps =>
        rw [q2] at h
        cases h
        obtain ⟨a, xs, rfl, h2, h3⟩ := lst_of (S := S) (d := .ref i) (l := l) R (by show (match S[i]? with | some (.lst l) => some l | _ => none) = _; rw [q]) r
        exact .lst h2 (dp_ofL l xs ps q2 h3)
    · unfold toPy at h
      cases h
  | _ => exact dp_of _ _ _ h r
theorem dp_lst {K : Frg} {F φ : List Addr} {S : Store} {H : Hp} {d : Val} {v : V} {l : List Val} {ps : List PyData} (R : Rp K F φ S H) (r : RV K F φ H d v) (h : lstOf S d = some l) (q : toPyL l = some ps) : Dp K H v (.list ps) := by
  obtain ⟨a, xs, rfl, h2, h3⟩ := lst_of R h r
  exact .lst h2 (dp_ofL l xs ps q h3)
theorem op_inDN (hu : X.A.units + 65 < cLine) : ∀ neg : Bool, OpR X (compareOp (if neg then .NotIn else .In)) (fun x y H Q => ∃ d ds, Dp X.K H x d ∧ Dp X.K H y (.list ds) ∧ SeqAt.shaped d = true ∧ SeqAt.shaped (.list ds) = true ∧ Q (.bl (if neg then !(ds.any fun z => PyData.eqv z d) else ds.any fun z => PyData.eqv z d)) H)
  | true => op_notInD hu
  | false => op_inD hu
theorem op2_inDN (hu : X.A.units + 65 < cLine) (neg : Bool) : Op2 X (compareOp (if neg then .NotIn else .In)) (vInD neg) := by
  refine ⟨_, op_inDN hu neg, fun F φ S H a b x y d S' R ra rb e Q q => ?_⟩
  unfold vInD at e
  cases e0 : pyOf S a with
  | none => rw [e0] at e; cases e
  | some p =>
    rw [e0] at e
    simp only [Option.bind_some] at e
    cases e1 : lstOf S b with
    | none => rw [e1] at e; cases e
    | some l =>
      rw [e1] at e
      simp only [Option.bind_some] at e
      cases e2 : toPyL l with
      | none => rw [e2] at e; cases e
      | some ds =>
        rw [e2] at e
        simp only [Option.bind_some] at e
        split at e
        · rename_i hz
          cases e
          rw [Bool.and_eq_true] at hz
          exact ⟨p, ds, dp_top R ra e0, dp_lst R rb e1 e2, hz.1, hz.2, q.now R rv_bl⟩
        · cases e
theorem op2_in2 (hu : X.A.units + 65 < cLine) (neg : Bool) : Op2 X (compareOp (if neg then .NotIn else .In)) (vIn2 neg) := by
  obtain ⟨r, o, i⟩ := op2_inN (X := X) neg
  obtain ⟨r', o', i'⟩ := op2_inDN hu neg
  exact ⟨_, o.or o', i.or i'⟩
theorem op2_inD2 (hu : X.A.units + 65 < cLine) : Op2 X (compareOp .In) (vIn2 false) := op2_in2 hu false
theorem op2_notinD2 (hu : X.A.units + 65 < cLine) : Op2 X (compareOp .NotIn) (vIn2 true) := op2_in2 hu true
/-- // by numbers of up to 9000 bits too -/
instance (i j : Int) : Decidable (CDivW i j) := by unfold CDivW; infer_instance
def vDivW : M2 := fun a b S => (vDiv a b S).or (vInt2 (fun i j => if CDivW i j then some (.int (i / j)) else none) a b S)
theorem op2_divW : Op2 X (binaryOp .FloorDiv) vDivW := by
  obtain ⟨r, o, i⟩ := op2_div (X := X)
  exact ⟨_, o.or op_fdivW, i.or (im2_int fun _ _ _ _ _ => rv_int)⟩
/-! ### max, min of a list or a tuple of ints -/
def maxI : List Int → Option Int
  | [] => none
  | n :: ns => some (ns.foldl max n)
def minI : List Int → Option Int
  | [] => none
  | n :: ns => some (ns.foldl min n)
theorem maxI_spec : ∀ (ns : List Int) (m : Int), maxI ns = some m → m ∈ ns ∧ ∀ y ∈ ns, y ≤ m
  | [], m, h => by cases h
  | n :: ns, m, h => by
    cases h
    induction ns generalizing n with
    | nil => simp
    | cons k ns ih =>
      obtain ⟨h1, h2⟩ := ih (max n k)
      rw [List.foldl_cons]
      refine ⟨?_, fun y hy => ?_⟩
      · rcases List.mem_cons.mp h1 with e | e
        · rw [e]
          by_cases q : n ≤ k
          · rw [Int.max_eq_right q]; simp
          · rw [Int.max_eq_left (by omega)]; simp
        · simp [e]
      · have hx := h2 (max n k) (by simp)
        rcases List.mem_cons.mp hy with e | e
        · omega
        · rcases List.mem_cons.mp e with e | e
          · omega
          · exact h2 y (by simp [e])
theorem minI_spec : ∀ (ns : List Int) (m : Int), minI ns = some m → m ∈ ns ∧ ∀ y ∈ ns, m ≤ y
  | [], m, h => by cases h
  | n :: ns, m, h => by
    cases h
    induction ns generalizing n with
    | nil => simp
    | cons k ns ih =>
      obtain ⟨h1, h2⟩ := ih (min n k)
      rw [List.foldl_cons]
      refine ⟨?_, fun y hy => ?_⟩
      · rcases List.mem_cons.mp h1 with e | e
        · rw [e]
          by_cases q : n ≤ k
          · rw [Int.min_eq_left q]; simp
          · rw [Int.min_eq_right (by omega)]; simp
        · simp [e]
      · have hx := h2 (min n k) (by simp)
        rcases List.mem_cons.mp hy with e | e
        · omega
        · rcases List.mem_cons.mp e with e | e
          · omega
          · exact h2 y (by simp [e])
theorem maxI_uniq {ns : List Int} {m m' : Int} (h : maxI ns = some m) (h1 : m' ∈ ns) (h2 : ∀ y ∈ ns, y ≤ m') : m' = m := by
  obtain ⟨a, b⟩ := maxI_spec ns m h
  have := b _ h1
  have := h2 _ a
  omega
theorem minI_uniq {ns : List Int} {m m' : Int} (h : minI ns = some m) (h1 : m' ∈ ns) (h2 : ∀ y ∈ ns, m' ≤ y) : m' = m := by
  obtain ⟨a, b⟩ := minI_spec ns m h
  have := b _ h1
  have := h2 _ a
  omega
theorem alike_all_ints (ns : List Int) : PySem.W.AlikeAll (ns.map PyData.int) := by
  refine ⟨fun x hx y hy => ?_, fun x hx => ?_⟩
  · obtain ⟨i, _, rfl⟩ := List.mem_map.mp hx
    obtain ⟨j, _, rfl⟩ := List.mem_map.mp hy
    simp [PySem.W.alike]
  · obtain ⟨i, _, rfl⟩ := List.mem_map.mp hx
    intro z; cases z
theorem dpall_ints {K : Frg} {H : Hp} : ∀ ns : List Int, DpAll K H (ns.map V.int) (ns.map PyData.int)
  | [] => .nil
  | n :: ns => .cons (.int n) (dpall_ints ns)
def rMaxT (K : Frg) : List V → Hp → VK → Prop := fun vs H Q => ∃ (a : Addr) (n : Int) (ns : List Int), vs = [V.ref a] ∧ SqT K H a ((n :: ns).map V.int) ∧ Q (.int (ns.foldl max n)) H
def rMinT (K : Frg) : List V → Hp → VK → Prop := fun vs H Q => ∃ (a : Addr) (n : Int) (ns : List Int), vs = [V.ref a] ∧ SqT K H a ((n :: ns).map V.int) ∧ Q (.int (ns.foldl min n)) H
theorem depth_ints0 (ns : List Int) : PyData.depthAll (ns.map PyData.int) = 0 := by
  induction ns with
  | nil => rfl
  | cons x xs ih => rw [List.map_cons, PyData.depthAll, ih]; rfl
theorem cr_maxT (hc : X.calm = true) (hu : X.A.units + 64 < cLine) : CallR X (.builtin "max") (rMaxT X.K) := by
  intro pins s σ H vs us Q I r h
  obtain ⟨a, n, ns, rfl, hs, q⟩ := h
  obtain ⟨its, rv, ht, hz⟩ := I.tuple hs
  obtain ⟨as, rd⟩ := Dp.readsAll I ((n :: ns).map PyData.int) _ its (dpall_ints (n :: ns)) rv
  rw [Vals.ref1 r]
  refine PySem.W.max_tuple_data (I.ok.hd hc) (x := .int n) (xs := ns.map PyData.int) (as := as) ht (by simpa using rd) (alike_all_ints (n :: ns)) ?_ fun i v h' tk bs _ hr hk => ?_
  · have := depth_ints0 (n :: ns)
    rw [List.map_cons] at this
    rw [this]
    omega
  · rw [PySem.W.maxD_ints] at hr
    cases hr
    exact ⟨.int _, H, I.kept hk, ⟨_, rfl⟩, q⟩
theorem cr_minT (hc : X.calm = true) (hu : X.A.units + 64 < cLine) : CallR X (.builtin "min") (rMinT X.K) := by
  intro pins s σ H vs us Q I r h
  obtain ⟨a, n, ns, rfl, hs, q⟩ := h
  obtain ⟨its, rv, ht, hz⟩ := I.tuple hs
  obtain ⟨as, rd⟩ := Dp.readsAll I ((n :: ns).map PyData.int) _ its (dpall_ints (n :: ns)) rv
  rw [Vals.ref1 r]
  refine PySem.W.min_tuple_data (I.ok.hd hc) (x := .int n) (xs := ns.map PyData.int) (as := as) ht (by simpa using rd) (alike_all_ints (n :: ns)) ?_ fun i v h' tk bs _ hr hk => ?_
  · have := depth_ints0 (n :: ns)
    rw [List.map_cons] at this
    rw [this]
    omega
  · rw [PySem.W.minD_ints] at hr
    cases hr
    exact ⟨.int _, H, I.kept hk, ⟨_, rfl⟩, q⟩
def vMax : MCall := fun as S => match as with
  | [.int i, .int j] => some (.int (if j > i then j else i), S)
  | [.tup l] => (intsOf l).bind fun ns => (maxI ns).map fun m => (.int m, S)
  | [a] => (lstOf S a).bind fun l => (intsOf l).bind fun ns => (maxI ns).map fun m => (.int m, S)
  | _ => none
def vMin : MCall := fun as S => match as with
  | [.int i, .int j] => some (.int (if j < i then j else i), S)
  | [.tup l] => (intsOf l).bind fun ns => (minI ns).map fun m => (.int m, S)
  | [a] => (lstOf S a).bind fun l => (intsOf l).bind fun ns => (minI ns).map fun m => (.int m, S)
  | _ => none
theorem opc_max (hc : X.calm = true) (hu : X.A.units + 64 < cLine) : OpC X (.builtin "max") vMax := by
  refine ⟨_, (call_max2 hc).or ((cr_max hc).or (cr_maxT hc hu)), fun F φ S H as xs d S' R r e Q q => ?_⟩
  unfold vMax at e
  split at e
  · rename_i i j
    obtain ⟨v, ws, h1, h2, h3⟩ := r.inv
    obtain ⟨v', ws', h1', h2', h3'⟩ := h3.inv
    cases e
    exact .inl ⟨i, j, by rw [h1, h1', h3'.inv0, h2.int, h2'.int], q.now R rv_int⟩
  · rename_i l
    obtain ⟨v, ws, h1, h2, h3⟩ := r.inv
    cases e0 : intsOf l with
    | none => rw [e0] at e; cases e
    | some ns =>
      rw [e0] at e
      simp only [Option.bind_some] at e
      cases ns with
      | nil => cases e
      | cons n ns =>
        cases e
        obtain ⟨a, ys, g1, g2, g3⟩ := tup_of (d := .tup l) rfl h2
        have e1 := ints_of e0 g3
        subst e1
        exact .inr (.inr ⟨a, n, ns, by rw [h1, h3.inv0, g1], g2, q.now R rv_int⟩)
  · rename_i a _
    obtain ⟨v, ws, h1, h2, h3⟩ := r.inv
    cases e9 : lstOf S a with
    | none => rw [e9] at e; cases e
    | some l =>
      rw [e9] at e
      simp only [Option.bind_some] at e
      cases e0 : intsOf l with
      | none => rw [e0] at e; cases e
      | some ns =>
        rw [e0] at e
        simp only [Option.bind_some] at e
        cases e7 : maxI ns with
        | none => rw [e7] at e; cases e
        | some m =>
          rw [e7] at e
          cases e
          obtain ⟨p, ys, g1, g2, g3⟩ := lst_of R e9 h2
          have e1 := ints_of e0 g3
          subst e1
          refine .inr (.inl ⟨p, ns, by rw [h1, h3.inv0, g1], g2, ?_, fun m' a1 a2 => ?_⟩)
          · cases ns with
            | nil => cases e7
            | cons _ _ => exact Nat.succ_pos _
          · rw [maxI_uniq e7 a1 a2]
            exact q.now R rv_int
  · cases e
theorem opc_min (hc : X.calm = true) (hu : X.A.units + 64 < cLine) : OpC X (.builtin "min") vMin := by
  refine ⟨_, (call_min2 hc).or ((cr_min hc).or (cr_minT hc hu)), fun F φ S H as xs d S' R r e Q q => ?_⟩
  unfold vMin at e
  split at e
  · rename_i i j
    obtain ⟨v, ws, h1, h2, h3⟩ := r.inv
    obtain ⟨v', ws', h1', h2', h3'⟩ := h3.inv
    cases e
    exact .inl ⟨i, j, by rw [h1, h1', h3'.inv0, h2.int, h2'.int], q.now R rv_int⟩
  · rename_i l
    obtain ⟨v, ws, h1, h2, h3⟩ := r.inv
    cases e0 : intsOf l with
    | none => rw [e0] at e; cases e
    | some ns =>
      rw [e0] at e
      simp only [Option.bind_some] at e
      cases ns with
      | nil => cases e
      | cons n ns =>
        cases e
        obtain ⟨a, ys, g1, g2, g3⟩ := tup_of (d := .tup l) rfl h2
        have e1 := ints_of e0 g3
        subst e1
        exact .inr (.inr ⟨a, n, ns, by rw [h1, h3.inv0, g1], g2, q.now R rv_int⟩)
  · rename_i a _
    obtain ⟨v, ws, h1, h2, h3⟩ := r.inv
    cases e9 : lstOf S a with
    | none => rw [e9] at e; cases e
    | some l =>
      rw [e9] at e
      simp only [Option.bind_some] at e
      cases e0 : intsOf l with
      | none => rw [e0] at e; cases e
      | some ns =>
        rw [e0] at e
        simp only [Option.bind_some] at e
        cases e7 : minI ns with
        | none => rw [e7] at e; cases e
        | some m =>
          rw [e7] at e
          cases e
          obtain ⟨p, ys, g1, g2, g3⟩ := lst_of R e9 h2
          have e1 := ints_of e0 g3
          subst e1
          refine .inr (.inl ⟨p, ns, by rw [h1, h3.inv0, g1], g2, ?_, fun m' a1 a2 => ?_⟩)
          · cases ns with
            | nil => cases e7
            | cons _ _ => exact Nat.succ_pos _
          · rw [minI_uniq e7 a1 a2]
            exact q.now R rv_int
  · cases e
/-! ### index, of flat items -/
def vIndex : MMt := fun a as S => match as with
  | [y] => (lstOf S a).bind fun l => if (flatD y && l.all flatD) = true then ((l.map flatTo).findIdx? fun z => eqV z (flatTo y)).map fun j => (.int (j : Nat), S) else none
  | _ => none
theorem opm_index : OpM X "list.index" vIndex := ⟨_, mt_index, fun F φ S H a as x xs d S' R ra rs e Q q => by
  unfold vIndex at e
  split at e
  · rename_i y
    obtain ⟨v, ws, h1, h2, h3⟩ := rs.inv
    cases e0 : lstOf S a with
    | none => rw [e0] at e; cases e
    | some l =>
      rw [e0] at e
      simp only [Option.bind_some] at e
      split at e
      · rename_i hz
        rw [Bool.and_eq_true] at hz
        cases e1 : (l.map flatTo).findIdx? fun z => eqV z (flatTo y) with
        | none => rw [e1] at e; cases e
        | some j =>
          rw [e1] at e
          cases e
          obtain ⟨p, ys, g1, g2, g3⟩ := lst_of R e0 ra
          obtain ⟨f1, f2⟩ := flat_rv hz.1 h2
          obtain ⟨f3, f4⟩ := flat_rvs hz.2 g3
          obtain ⟨hj, hj1, hj2⟩ := List.findIdx?_eq_some_iff_getElem.mp e1
          refine ⟨p, ys, v, j, (l.map flatTo)[j], g1, by rw [h1, h3.inv0], g2, f2, f4, by rw [f3]; exact List.getElem?_eq_getElem hj, by rw [f1]; exact hj1, fun m z' hm hz' => ?_, q.now R rv_int⟩
          rw [f3] at hz'
          obtain ⟨hm2, rfl⟩ := List.getElem?_eq_some_iff.mp hz'
          have := hj2 m hm
          rw [f1]
          simpa using this
      · cases e
  · cases e⟩
end
end Fx
/-! sorted(any alike data); enumerate(a tuple). -/
namespace Fx
open PySem PySem.Spec PyProof.Rows L2
theorem u100 {k : Nat} {A : Around} (r : Room k A) : A.units + 100 < cLine := by have := r.un; omega
theorem u65 {k : Nat} {A : Around} (r : Room k A) : A.units + 65 < cLine := by have := r.un; omega
/-- the places in the order of the keys -/
def srtIx (ds : List PyData) : List Nat := (List.range ds.length).mergeSort (PySem.W.dataLe false fun i => ds.getD i .none)
def srtBy {α : Type} (ds : List PyData) (xs : List α) : List α := (srtIx ds).filterMap fun i => xs[i]?
theorem each_of {α β : Type} {R : α → β → Prop} : ∀ (as : List α) (bs : List β), as.length = bs.length → (∀ (i : Nat) a b, as[i]? = some a → bs[i]? = some b → R a b) → PySem.W.EachIs R as bs
  | [], [], _, _ => .nil
  | [], b :: bs, h, _ => by simp at h
  | a :: as, [], h, _ => by simp at h
  | a :: as, b :: bs, h, q => .cons (q 0 a b rfl rfl) (each_of as bs (by simpa using h) fun i a b h1 h2 => q (i + 1) a b (by simpa using h1) (by simpa using h2))
theorem each_pick {xs : List V} {us : List Value} (r : Vals xs us) : ∀ {out : List Value} {is : List Nat}, PySem.W.EachIs (fun u i => us[i]? = some u) out is → Vals (is.filterMap fun i => xs[i]?) out
  | _, _, .nil => .nil
  | _, _, .cons (a := u) (b := i) (as := out) (bs := is) h t => by
    have ih := each_pick r t
    rw [List.filterMap_cons]
    cases q : xs[i]? with
    | none =>
      have := r.none_of q
      rw [this] at h
      cases h
    | some v =>
      obtain ⟨u', h1, h2⟩ := r.get q
      rw [h1] at h
      cases h
      exact .cons h2 ih
theorem ks_self {ds : List PyData} : (List.range ds.length).map (fun i => ds.getD i .none) = ds := by
  apply List.ext_getElem
  · simp
  · intro i h1 h2
    simp [List.getD_eq_getElem?_getD, h2]
def rSrt (K : Frg) : List V → Hp → VK → Prop := fun vs H Q => ∃ (a : Addr) (xs : List V) (ds : List PyData), vs = [V.ref a] ∧ SqL K H a xs ∧ DpAll K H xs ds ∧ PySem.W.AllAlike ds ∧ PySem.W.Sortable ds ∧ (∀ d ∈ ds, d.depth ≤ 60) ∧
  ∀ p, H p = none → Q (.ref p) (upd H p (.lst (srtBy ds xs)))
section
variable {X : Cx}
theorem cr_srt (hu : X.A.units + 100 < cLine) : CallR X (.builtin "sorted") (rSrt X.K) := by
  intro pins s σ H vs us Q I r h
  obtain ⟨a, xs, ds, rfl, hs, hd, hal, hk, hdp, q⟩ := h
  obtain ⟨its, rv, hl, hz⟩ := I.list hs
  obtain ⟨as, rd⟩ := Dp.readsAll I ds _ its hd rv
  have n1 : its.length = ds.length := SeqAt.ReadsAll.length ds its as rd
  have n2 : xs.length = its.length := rv.length
  rw [Vals.ref1 r]
  have em := ks_self (ds := ds)
  refine PySem.W.sorted_data (vs := its) (bs := List.range ds.length) (enc := fun i => ds.getD i .none) (R := fun u i => its[i]? = some u) hl.isList ?_ ?_ (by rw [em]; exact hal) (by rw [em]; exact hk) (by rw [List.length_range]; omega) ?_ fun out ho eo => ?_
  · refine each_of _ _ (by rw [List.length_range]; exact n1) fun i u j h1 h2 => ?_
    obtain ⟨hi, e⟩ := List.getElem?_eq_some_iff.mp h2
    rw [List.getElem_range] at e
    rw [← e]
    exact h1
  · refine each_of _ _ (by rw [List.length_range]; exact n1) fun i u j h1 h2 => ?_
    obtain ⟨hi, e⟩ := List.getElem?_eq_some_iff.mp h2
    rw [List.getElem_range] at e
    obtain ⟨bs, h3, _⟩ := PySem.W.readsAll_at rd i u h1
    rw [← e]
    exact ⟨bs, h3⟩
  · intro i hi
    rw [List.mem_range] at hi
    have : (ds.getD i .none).depth ≤ 60 := by
      rw [List.getD_eq_getElem?_getD, List.getElem?_eq_getElem hi]
      exact hdp _ (List.getElem_mem hi)
    omega
  · have hn : H (s.heap.objs.size + 1) = none := I.hok.fresh (Nat.le_succ _)
    obtain ⟨c, hc⟩ := sortedAll_at s.heap its out.toArray
    have hv : Vals (srtBy ds xs) out := each_pick rv eo
    have hlen : (srtBy ds xs).length ≤ sizeLine := by rw [hv.length, ho, List.length_range]; omega
    exact ⟨.ref (s.heap.objs.size + 1), upd H (s.heap.objs.size + 1) (.lst (srtBy ds xs)), I.laid (t' := s.toks) (fun _ _ => sortedAll_old) (Nat.le_succ _) ⟨hlen, out, c, hv, hc⟩, rfl, q _ hn⟩
end
theorem RVs.pick2 {K : Frg} {F φ : List Addr} {H : Hp} {l : List Val} {xs : List V} (r : RVs K F φ H l xs) : ∀ is : List Nat, RVs K F φ H (is.filterMap fun i => l[i]?) (is.filterMap fun i => xs[i]?)
  | [] => RVs.nil
  | i :: is => by
    have ih := RVs.pick2 r is
    rw [List.filterMap_cons, List.filterMap_cons]
    cases q : l[i]? with
    | none =>
      have : xs[i]? = none := by
        rw [List.getElem?_eq_none_iff] at q ⊢
        rw [r.length]
        exact q
      rw [this]
      exact ih
    | some d =>
      obtain ⟨v, h1, h2⟩ := r.get q
      rw [h1]
      exact .cons h2 ih
open Classical in
noncomputable def vSorted (c : Bool) : MCall := fun as S => match as with
  | [a] => (lstOf S a).bind fun l => (toPyL l).bind fun ds => if PySem.W.AllAlike ds ∧ PySem.W.Sortable ds ∧ ∀ d ∈ ds, d.depth ≤ 60 then some (mk c (srtBy ds l) S) else none
  | _ => none
theorem opc_sorted {X : Cx} (c : Bool) (hu : X.A.units + 100 < cLine) : OpC X (.builtin "sorted") (vSorted c) := by
  refine ⟨_, cr_srt hu, fun F φ S H as xs d S' R r e Q q => ?_⟩
  unfold vSorted at e
  split at e
  · rename_i a
    obtain ⟨v, ws, h1, h2, h3⟩ := r.inv
    cases e0 : lstOf S a with
    | none => rw [e0] at e; cases e
    | some l =>
      rw [e0] at e
      simp only [Option.bind_some] at e
      cases e1 : toPyL l with
      | none => rw [e1] at e; cases e
      | some ds =>
        rw [e1] at e
        simp only [Option.bind_some] at e
        split at e
        · rename_i hz
          obtain ⟨p, ys, g1, g2, g3⟩ := lst_of R e0 h2
          have e' : mk c (srtBy ds l) S = (d, S') := Option.some.inj e
          refine ⟨p, ys, ds, by rw [h1, h3.inv0, g1], g2, dp_ofL l ys ds e1 g3, hz.1, hz.2.1, hz.2.2, fun p' hp' => ?_⟩
          refine Aft.mk (c := c) (S := S) (ds := srtBy ds l) ?_ R (RVs.pick2 g3 _) hp'
          rw [e']
          exact q
        · cases e
  · cases e
/-! ### enumerate(a tuple) -/
section
variable {prog : Program} {w : World} {A : Around} {E : Value → Shared → Prop} {s : Shared}
set_option maxHeartbeats 1000000 in
theorem meets_enumT (l : Addr) (items : Array Value) (n : Nat) (dct : Option Addr) (sl : Array (Option Value)) :
    Meets (Builtin.«enumerate.__new__» ⟨[.type "enumerate", .ref l], []⟩) (fun _ R s => s.heap.get? l = some { cls := .type "tuple", dict := dct, data := .seq items n, slots := sl } ∧
      R (.ok (.ret (.ref (s.heap.push { cls := .type "tuple_iterator", data := .fields #[.ref l, .int 0 0] }).objs.size)))
        { s with heap := (s.heap.push { cls := .type "tuple_iterator", data := .fields #[.ref l, .int 0 0] }).push { cls := .type "enumerate", data := .fields #[.none, .bool false, .ref s.heap.objs.size, rawInt 0, .none, .none] } }) :=
  .of_wp fun prog w A R s h => by
    obtain ⟨hp, g, d, tk, os⟩ := s; obtain ⟨hl, h⟩ := h
    have hsub := sub_enumerate
    have hL : Heap.IsTuple (Shared.heap ⟨hp, g, d, tk, os⟩) l items := ⟨_, hl, rfl, n, rfl⟩
    wp_walk using AutoSeq1.wpAny_loadPart' hl
    refine wpAny_stack_any fun st => wpAny_pure ?_
    split
    · rename_i c _ _ _ _ _
      cases (c == Value.type "enumerate")
      · wp_walk using AutoSeq1.wpAny_loadPart' hl, wpAny_pyIter_tuple hL
        exact ⟨_, rfl, h⟩
      · wp_walk using AutoSeq1.wpAny_loadPart' hl, wpAny_pyIter_tuple hL
        exact ⟨_, rfl, h⟩
    · wp_walk using AutoSeq1.wpAny_loadPart' hl, wpAny_pyIter_tuple hL
      exact ⟨_, rfl, h⟩
theorem call_enumT {l : Addr} {items : Array Value} {Q : Value → Shared → Prop} (hL : s.heap.IsTuple l items)
    (h : ∀ h', IsEnum h' (s.heap.objs.size + 1) s.heap.objs.size 0 .none → h'.IsTupleIter s.heap.objs.size l 0 → h'.objs.size = s.heap.objs.size + 2 →
      (∀ b o, s.heap.get? b = some o → h'.get? b = some o) → Q (.ref (s.heap.objs.size + 1)) { s with heap := h' }) :
    wpAny (model prog w) A (call (.type "enumerate") [.ref l]) Q E s := by
  obtain ⟨⟨c, dct, dt, sl⟩, hl, hc, n, hd⟩ := hL
  replace hc : c = .type "tuple" := hc
  replace hd : dt = .seq items n := hd
  subst hc hd
  refine callType_new PySem.F.called_enumerate (by decide) (PySem.F.typeCall_enumerate_1 _) (PySem.F.newCall_enumerate_1 _) (fun obj => PySem.F.args_object_init_2 obj _) PySem.F.entry_enumerate_new
    (meets_enumT l items n dct sl) ⟨hl, ?_⟩
  have hz : (s.heap.push { cls := .type "tuple_iterator", data := .fields #[.ref l, .int 0 0] }).objs.size = s.heap.objs.size + 1 := Heap.size_push ..
  show _ ∧ _
  rw [hz]
  have he : IsEnum ((s.heap.push { cls := .type "tuple_iterator", data := .fields #[.ref l, .int 0 0] }).push
      { cls := .type "enumerate", data := .fields #[.none, .bool false, .ref s.heap.objs.size, rawInt 0, .none, .none] }) (s.heap.objs.size + 1) s.heap.objs.size 0 .none := by
    have := Heap.get?_push_size (s.heap.push { cls := .type "tuple_iterator", data := .fields #[.ref l, .int 0 0] })
      (o := { cls := .type "enumerate", data := .fields #[.none, .bool false, .ref s.heap.objs.size, rawInt 0, .none, .none] }) rfl
    rw [hz] at this; exact this
  refine ⟨⟨_, he, rfl⟩, h _ he ⟨_, Heap.get?_push_of_some _ (Heap.get?_push_size _ rfl), rfl, rfl⟩ (by rw [Heap.size_push, hz]) fun b o x => Heap.get?_push_of_some _ (Heap.get?_push_of_some _ x)⟩
end
theorem enumT_end {prog : Program} {w : World} {A : Around} {E : Value → Shared → Prop} {s : Shared} {e it l : Addr} {i : Nat} {items : Array Value} {old : Value} {Q : Option Value → Shared → Prop} (hh : A.handled = none)
    (he : IsEnum s.heap e it i old) (hit : s.heap.IsTupleIter it l i) (hl : s.heap.IsTuple l items) (hx : items[i]? = none)
    (hQ : ∀ h', Heap.ExtBut it s.heap h' → Q none { s with heap := h' }) : wpAny (model prog w) A (pyNext (.ref e)) Q E s := by
  have hT : s.TypeIs (.ref e) "enumerate" := ⟨_, he, rfl⟩
  unfold pyNext
  refine wpAny_bind (wpAny_attempt (wpAny_callSpecial?_slot (name := Str.ofString "__next__") hT PySem.F.slot_enumerate_next
    (wpAny_call_entry PySem.F.slot_enumerate_next hT PySem.F.entry_enumerate_next ?_ (PySem.F.args_enumerate_next_1 _))))
  show wpAny _ _ (field (.ref e) 2 >>= _) _ _ _
  refine wpAny_bind (wpAny_field he rfl (x := .ref it) rfl ?_)
  refine wpAny_bind (wpAny_nextOf_tuple_end (by exact hh) hit hl hx fun h' x he' hx' => ?_)
  obtain ⟨o, ho, hc⟩ := hx'
  refine wpAny_bind (wpAny_isInstance (T := "StopIteration") (b := true) ⟨o, ho, hc⟩ isSubtype_stop ?_)
  exact wpAny_pure (hQ _ he')
/-- the tuple at a, each item in a new pair -/
def IteT (K : Frg) (a : Addr) : It :=
  ⟨fun i H => ∃ (xs : List V) (x : V), SqT K H a xs ∧ xs[i]? = some x, fun i H v H' => ∃ T x, v = .ref T ∧ H T = none ∧ H' = upd H T (.tup [.int (i : Nat), x]) ∧ ∀ xs, SqT K H a xs → xs[i]? = some x, fun i H => ∃ xs : List V, SqT K H a xs ∧ xs.length ≤ i⟩
theorem tit_at {h h' : Heap} {it a : Addr} {i : Nat} (x : h.IsTupleIter it a i) (k : ∀ o, h.get? it = some o → h'.get? it = some o) : h'.IsTupleIter it a i :=
  let ⟨o, ho, r⟩ := x; ⟨o, k o ho, r⟩
theorem turn_enumT {P : Program} {w : World} {K : Frg} {elts : List Expr} {kk : Nat} {tpos : Pos} (a e it : Addr) :
    Turn P w K (.Tuple elts kk tpos) (IteT K a) [e, it] e (fun i h => (∃ old, IsEnum h e it ((i : Nat) : Int) old) ∧ h.IsTupleIter it a i ∧ e ≠ it) where
  mem := by simp
  obj := fun i h st b hb => by
    obtain ⟨⟨old, he⟩, ⟨o, ho, hc, hd⟩, _⟩ := st
    have e' : b = e ∨ b = it := by simpa using hb
    rcases e' with z | z
    · rw [z]; exact ⟨_, he, fun v q => nomatch q⟩
    · rw [z]; exact ⟨o, ho, fun v q => by rw [hd] at q; cases q⟩
  keep := fun i h h' st k => let ⟨⟨old, he⟩, hi, hne⟩ := st; ⟨⟨old, k e (by simp) _ he⟩, tit_at hi fun o q => k it (by simp) o q, hne⟩
  item := by
    intro X hP hw hK hc i pins s σ H E I hf st hg
    subst hP hw hK
    obtain ⟨⟨old, he⟩, hit, hne⟩ := st
    obtain ⟨xs, x, hq, hx⟩ := hg
    obtain ⟨its, rv, ⟨oa, hoa, hca, na, hda⟩, hz⟩ := I.tuple hq
    have ht : s.heap.IsTuple a its.toArray := ⟨oa, hoa, hca, na, hda⟩
    obtain ⟨u, hu, ru⟩ := rv.get hx
    have hel : e < s.heap.objs.size := Heap.lt_size he
    have hil : it < s.heap.objs.size := by obtain ⟨_, q, _⟩ := hit; exact Heap.lt_size q
    have hae : a ≠ e := fun z => by
      rw [z] at hoa
      have : some oa = some _ := hoa.symm.trans he
      cases this
      injection hca with z2
      exact absurd z2 (by decide)
    have hai : a ≠ it := fun z => by
      obtain ⟨o2, h2, c2, _⟩ := hit
      rw [z, h2] at hoa
      cases hoa
      rw [c2] at hca
      injection hca with z2
      exact absurd z2 (by decide)
    have hlt : i < its.toArray.size := by
      have := (List.getElem?_eq_some_iff.mp hu).1
      simpa using this
    refine wpAny_pyNext_enum_itemD (Draws.tuple (prog := X.prog) (w := X.w) (A := X.A.in1) (I.ok.hd hc) it a hai its.toArray) he ⟨hit, ht⟩ hlt hne (by simp [hne, Ne.symm hae]) fun y h' tk hy ho hst hT hsz hk => ?_
    obtain rfl : y = u := by
      have h1 : its.toArray[i]? = some y := hy
      have h2 : its.toArray[i]? = some u := by simpa using hu
      rw [h1] at h2
      exact Option.some.inj h2
    obtain ⟨hit', ht'⟩ := hst
    refine ⟨_, rfl, wpAny_letOwnedTupleGo_enum (s := { s with heap := h', toks := tk + 1 }) ho fun h'' he' sb => ?_⟩
    have hT2 : h''.get? s.heap.objs.size = some { cls := .type "tuple", data := .seq #[.int i tk, y] } := (sb.2 _ (Nat.ne_of_gt hel)).trans hT
    have new : ObjOk X.prog X.w (upd H s.heap.objs.size (.tup [.int (i : Nat), x])) h'' s.heap.objs.size (.tup [.int (i : Nat), x]) :=
      ⟨by show 2 ≤ sizeLine; decide, [.int i tk, y], .cons ⟨_, rfl⟩ (.cons ru .nil), ⟨_, hT2, rfl, _, rfl⟩⟩
    have I1 : Inv X pins σ (upd H s.heap.objs.size (.tup [.int (i : Nat), x])) { s with heap := h'', toks := tk + 1 } :=
      I.turnedNew (ch := [e, it]) (fun b ob hb q => (sb.2 b (fun z => hb (by simp [z]))).trans (hk b ob (fun z => hb (by simp [z])) (fun z => hb (by simp [z])) q)) hf (Nat.le_refl _) new
    refine ⟨.ref s.heap.objs.size, _, I1, rfl, ⟨_, x, rfl, I.hok.fresh (Nat.le_refl _), rfl, fun ys hy2 => by rw [I.tuple_inj hy2 hq]; exact hx⟩, ⟨⟨y, ?_⟩, tit_at hit' fun o q => (sb.2 it (Ne.symm hne)).trans q, hne⟩, fun b hb => ?_⟩
    · have e1 : ((i + 1 : Nat) : Int) = (i : Int) + 1 := by omega
      rw [e1]; exact he'
    · have hb' : b < s.heap.objs.size := by
        have e' : b = e ∨ b = it := by simpa using hb
        rcases e' with z | z
        · rw [z]; exact hel
        · rw [z]; exact hil
      rw [upd_ne (Nat.ne_of_lt hb')]
      exact (hf b hb).1
  done := by
    intro X hP hw hK hc i pins s σ H E I hf st hg
    subst hP hw hK
    obtain ⟨⟨old, he⟩, hit, hne⟩ := st
    obtain ⟨xs, hq, hx⟩ := hg
    obtain ⟨its, rv, ⟨oa, hoa, hca, na, hda⟩, hz⟩ := I.tuple hq
    have ht : s.heap.IsTuple a its.toArray := ⟨oa, hoa, hca, na, hda⟩
    obtain ⟨f0, f1, f2, f3, f4, f5⟩ := hf it (by simp)
    have hl := rv.length
    have hai : a ≠ it := fun z => by
      obtain ⟨o2, h2, c2, _⟩ := hit
      rw [z, h2] at hoa
      cases hoa
      rw [c2] at hca
      injection hca with z2
      exact absurd z2 (by decide)
    exact enumT_end (I.ok.hd hc) he hit ht (by simp; omega) fun h' eb => ⟨rfl, I.turned (t' := s.toks) (fun b o hb q => eb b o hb q) f0 f1 f3 f4 f5⟩
  self := fun A i s Q E st h => let ⟨⟨_, he⟩, _⟩ := st; wpAny_pyIter_enum he h
def iEnumT (K : Frg) (ta : TA) : L2.TI := fun σ H R => ta σ H fun vs H1 => ∃ a xs, vs = [.ref a] ∧ SqT K H1 a xs ∧ R (IteT K a) H1
theorem pi_enumT {X : Cx} {e : Expr} {ta : TA} {p pos tpos : Pos} {elts : List Expr} {kk : Nat} (hg : Gl X "enumerate") (hm : X.mg "enumerate" = none) (ha : PA X [e] ta) (hs : starEach [e] X.env = [(false, eval e X.env)] := by rfl) :
    PI X (.Tuple elts kk tpos) (.Call (.Name "enumerate" p) [e] [] pos) (iEnumT X.K ta) := by
  refine ⟨fun pins s σ H R I h => ?_⟩
  refine Call_ (ld_blt I hg hm boot_enumerate (PyProof.Rows.callWith_type1 (thn (ha.run pos pins s σ H _ I h) fun us s1 ⟨vs, H1, I1, r1, q1⟩ => ?_) hs rfl))
  obtain ⟨a, xs, ex, hq, q⟩ := q1
  subst ex
  cases r1 with
  | cons r rr =>
    cases rr
    cases r
    obtain ⟨its, rv, ⟨oa, hoa, hca, na, hda⟩, hz⟩ := I1.tuple hq
    refine call_enumT (items := its.toArray) ⟨oa, hoa, hca, na, hda⟩ fun h' he hit hsz hk => wpAny_pyIter_enum he ?_
    have I2 : Inv X pins σ H1 { s1 with heap := h' } := I1.kept (t' := s1.toks) hk
    refine ⟨s1.heap.objs.size + 1, [s1.heap.objs.size + 1, s1.heap.objs.size], _, _, H1, rfl, I2, turn_enumT a (s1.heap.objs.size + 1) s1.heap.objs.size, ⟨⟨.none, he⟩, hit, Nat.succ_ne_self _⟩, fun b hb => ?_, q⟩
    have e' : b = s1.heap.objs.size + 1 ∨ b = s1.heap.objs.size := by simpa using hb
    have hle : s1.heap.objs.size ≤ b := by
      rcases e' with z | z
      · rw [z]; exact Nat.le_add_right _ _
      · rw [z]; exact Nat.le_refl _
    exact I1.fpOk hle (I1.hok.fresh hle)
theorem walk_eT {K : Frg} {F φ : List Addr} {H : Hp} {a : Addr} {l : List Val} {xs : List V} (hs : SqT K H a xs) (r : RVs K F φ H l xs) : WalkI K F φ H (IteT K a) (l.mapIdx fun i x => .tup [.int (i : Nat), x]) := fun F' φ' S H' hf e R => by
  have q : SqT K H' a xs := e.sqT hs
  have r' := RVs.mono e _ _ (RVs.more hf _ _ r)
  have hl : (l.mapIdx fun i x => Val.tup [.int (i : Nat), x]).length = l.length := by simp
  refine ⟨fun i hi => ?_, ⟨xs, q, by rw [hl, r.length]; exact Nat.le_refl _⟩, fun i x H2 hi y => ?_⟩
  · rw [hl] at hi
    obtain ⟨v, h1, _⟩ := r.get (List.getElem?_eq_getElem hi)
    exact ⟨xs, v, q, h1⟩
  · obtain ⟨T, z, rfl, hT, rfl, y⟩ := y
    rw [hl] at hi
    obtain ⟨d, h1, h2⟩ := r'.get' (y xs q)
    refine ⟨.tup [.int (i : Nat), d], ?_, Ext.new hT, R.new hT, ?_⟩
    · rw [List.getElem?_mapIdx, h1]
      rfl
    · unfold RV
      refine ⟨T, _, rfl, SqT.of upd_same, .cons rv_int (.cons (RV.mono (Ext.new hT) _ _ h2) .nil)⟩
def mEnumT (ms : MA) : MA := fun env S => bnd (ms env S) fun ds S1 => match ds with
  | [.tup l] => some (l.mapIdx fun i x => .tup [.int (i : Nat), x], S1)
  | _ => none
theorem ii_enumT {X : Cx} {e : Expr} {ms : MA} {p pos tpos : Pos} {elts : List Expr} {kk : Nat} (hg : Gl X "enumerate") (hm : X.mg "enumerate" = none) (ha : AI X [e] ms) (hs : starEach [e] X.env = [(false, eval e X.env)] := by rfl) :
    II X (.Tuple elts kk tpos) (.Call (.Name "enumerate" p) [e] [] pos) (mEnumT ms) := by
  obtain ⟨t, p, i⟩ := ha
  refine ⟨_, pi_enumT hg hm p hs, fun F φ S H σ env ds S' R E h0 Q a => ?_⟩
  obtain ⟨d, S1, h1, h⟩ := bnd_some h0
  clear h0
  split at h
  · rename_i l
    cases h
    refine i F φ S H σ env _ S' R E h1 _ fun φ1 H1 vs e1 R1 r1 => ?_
    obtain ⟨v, ws, g1, g2, g3⟩ := r1.inv
    obtain ⟨b, xs, k1, k2, k3⟩ := tup_of (d := .tup l) rfl g2
    exact ⟨b, xs, by rw [g1, g3.inv0, k1], k2, a φ1 H1 _ e1 R1 (walk_eT k2 k3)⟩
  · cases h
end Fx
/-! Walks over lists that may change (but do not meanwhile): guards. -/
namespace Fx
open PySem PySem.Spec PyProof.Rows L2
/-- cells that are walked, with what they hold meanwhile -/
abbrev Gd := List (Nat × List Val)
def OkG (gd : Gd) (S : Store) : Prop := ∀ p ∈ gd, S[p.1]? = some (.lst p.2)
abbrev MAG := MM (List Val × Gd)
def WalkG (K : Frg) (F : List Addr) (φ₀ : List Addr) (H₀ : Hp) (J : It) (items : List Val) (gd : Gd) : Prop :=
  ∀ F' φ S H, (∀ a ∈ F', a ∈ F ∨ H₀ a = none) → Ext φ₀ H₀ φ H → Rp K F' φ S H → OkG gd S → (∀ i, i < items.length → J.go i H) ∧ J.stop items.length H ∧
    ∀ i x H', i < items.length → J.yld i H x H' → ∃ d, items[i]? = some d ∧ Ext φ H φ H' ∧ Rp K F' φ S H' ∧ RV K F' φ H' d x
def AftIG (K : Frg) (F φ : List Addr) (H : Hp) (S' : Store) (p : List Val × Gd) (R : It → Hp → Prop) : Prop := ∀ φ' H' J, Ext φ H φ' H' → Rp K F φ' S' H' → WalkG K F φ' H' J p.1 p.2 → R J H'
def ImIG (K : Frg) (t : L2.TI) (m : MAG) : Prop := ∀ F φ S H σ env ds S', Rp K F φ S H → RE K F φ H env σ → m env S = some (ds, S') → ∀ R : It → Hp → Prop, AftIG K F φ H S' ds R → t σ H R
def IIG (X : Cx) (tg e : Expr) (m : MAG) : Prop := ∃ t, PI X tg e t ∧ ImIG X.K t m
open Classical in
noncomputable def gdG (gd : Gd) (g : MG) : MG := fun d env S => if OkG gd S then g d env S else none
theorem gdG_some {gd : Gd} {g : MG} {d : Val} {env : VEnv} {S : Store} {r} (h : gdG gd g d env S = some r) : OkG gd S ∧ g d env S = some r := by
  unfold gdG at h
  split at h
  · rename_i q
    exact ⟨q, h⟩
  · cases h
theorem gdG_of {gd : Gd} {g : MG} {d : Val} {env : VEnv} {S : Store} (h : OkG gd S) : gdG gd g d env S = g d env S := by
  unfold gdG
  rw [if_pos h]
open Classical in
noncomputable def mForG (mi : MAG) (g : MG) (b : MS) : MS := fun env S => bnd (mi env S) fun p S1 => bnd (forL (gdG p.2 g) b p.1 env S1) fun o S2 => match o with
  | .nx e => if OkG p.2 S2 then some (.nx e, S2) else none
  | o => some (o, S2)
theorem forG_inv {m : Option (Out × Store)} {gd : Gd} {o : Out} {S' : Store} (h : (bnd m fun o S2 => match o with
  | .nx e => (open Classical in if OkG gd S2 then some (Out.nx e, S2) else none)
  | o => some (o, S2)) = some (o, S')) : m = some (o, S') ∧ ∀ e, o = .nx e → OkG gd S' := by
  obtain ⟨o1, S1, h1, h⟩ := bnd_some h
  cases o1 with
  | nx e =>
    dsimp only at h
    split at h
    · rename_i q
      cases h
      exact ⟨h1, fun _ _ => q⟩
    · cases h
  | rt d => cases h; exact ⟨h1, fun _ z => by cases z⟩
  | bk d => cases h; exact ⟨h1, fun _ z => by cases z⟩
  | ct d => cases h; exact ⟨h1, fun _ z => by cases z⟩
theorem si_forG {X : Cx} {tg iter : Expr} {body : List Stmt} {mi : MAG} {ws : List Nat} {mg : MG} {mb : MS} {pos : Pos} (hp : PassesOwn (model X.prog X.w) X.A X.env X.xe) (hc : X.calm = true) (hi : IIG X tg iter mi) (hg : GI X ws tg mg) (hb : BI X body mb)
    (hs : ∀ x, foldedSetIterable iter X.env x = pure x := by intro _; rfl) : SI X (.For tg iter body [] pos) (mForG mi mg mb) := by
  obtain ⟨ti, pi, ii⟩ := hi
  obtain ⟨tg', pg, ig⟩ := hg
  obtain ⟨tb, pb, ib⟩ := hb
  refine ⟨_, ps_for hp hc pi pg pb hs, fun F φ S H σ env o S' R E h D a => ?_⟩
  obtain ⟨⟨items, gd⟩, S1, h1, h⟩ := bnd_some h
  obtain ⟨h, hk⟩ := forG_inv h
  refine ii F φ S H σ env (items, gd) S1 R E h1 _ fun φ1 H1 J x1 R1 Wk => ?_
  refine ⟨fun i k σ2 H2 => ∃ φ2 S2 env2, Ext φ1 H1 φ2 H2 ∧ Rp X.K F φ2 S2 H2 ∧ RE X.K F φ2 H2 env2 σ2 ∧ forL (gdG gd mg) mb (items.drop i) env2 S2 = some (o, S') ∧ i ≤ items.length ∧ k = items.length - i,
    ⟨items.length, φ1, S1, env, Ext.refl, R1, E.mono x1, by rw [List.drop_zero]; exact h, Nat.zero_le _, by omega⟩, ?_⟩
  rintro i k σ2 H2 ⟨φ2, S2, env2, x2, R2, E2, h2, hi, rfl⟩
  have hok : OkG gd S2 := by
    by_cases hlt : i < items.length
    · rw [List.drop_eq_getElem_cons hlt] at h2
      unfold forL at h2
      obtain ⟨env3, S3, h3, _⟩ := bnd_some (r := (o, S')) h2
      exact (gdG_some h3).1
    · rw [List.drop_eq_nil_of_le (by omega)] at h2
      cases h2
      exact hk _ rfl
  obtain ⟨w1, w2, w3⟩ := Wk F φ2 S2 H2 (fun a ha => .inl ha) x2 R2 hok
  by_cases hlt : i < items.length
  · refine .inr ⟨w1 i hlt, fun σ3 H3 => ∃ φ3 S3 env3, Ext φ1 H1 φ3 H3 ∧ Rp X.K F φ3 S3 H3 ∧ RE X.K F φ3 H3 env3 σ3 ∧ forL (gdG gd mg) mb (items.drop (i + 1)) env3 S3 = some (o, S'), fun σ3 H3 ⟨φ3, S3, env3, q1, q2, q3, q4⟩ => ⟨items.length - (i + 1), by omega, φ3, S3, env3, q1, q2, q3, q4, hlt, rfl⟩, fun x H3 y => ?_⟩
    obtain ⟨d, hd, y1, y2, y3⟩ := w3 i x H3 hlt y
    have ed : items.drop i = d :: items.drop (i + 1) := by
      rw [List.drop_eq_getElem_cons hlt]
      rw [List.getElem?_eq_getElem hlt] at hd
      cases hd
      rfl
    rw [ed] at h2
    unfold forL at h2
    obtain ⟨env3, S3, h3, h2⟩ := bnd_some (r := (o, S')) h2
    obtain ⟨o4, S4, h4, h2⟩ := bnd_some (r := (o, S')) h2
    have h3 := (gdG_some h3).2
    refine ig F φ2 S2 H3 σ2 env2 d x env3 S3 y2 (E2.mono y1) y3 h3 _ fun φ4 H4 σ4 x4 R4 E4 _ => ?_
    refine ib F φ4 S3 H4 σ4 env3 o4 S4 R4 E4 h4 _ ?_
    have xx := x2.trans (y1.trans x4)
    cases o4 with
    | nx e => exact fun φ5 H5 σ5 x5 R5 E5 => ⟨φ5, S4, e, xx.trans x5, R5, E5, h2⟩
    | ct e => exact fun φ5 H5 σ5 x5 R5 E5 => ⟨φ5, S4, e, xx.trans x5, R5, E5, h2⟩
    | bk e =>
      cases h2
      exact fun φ5 H5 σ5 x5 R5 E5 => a φ5 H5 σ5 (x1.trans (xx.trans x5)) R5 E5
    | rt d =>
      cases h2
      exact fun φ5 H5 v x5 R5 r5 => a φ5 H5 v (x1.trans (xx.trans x5)) R5 r5
  · have e : i = items.length := by omega
    subst e
    rw [List.drop_length] at h2
    cases h2
    exact .inl ⟨w2, a φ2 H2 σ2 (x1.trans x2) R2 E2⟩

open Classical in
noncomputable def mLcG (c : Bool) (vs : List Nat) (mi : MAG) (g : MG) (t : MT) (m : ME) : ME := fun env S => bnd (mi env S) fun p S1 => bnd (lcL (gdG p.2 g) t m (wipeE env vs) p.1 S1) fun ds S2 => if ds.length ≤ sizeLine ∧ OkG p.2 S2 then some (mk c ds S2) else none
theorem im_lcG {K : Frg} (c : Bool) {vs ws : List Nat} {ti : L2.TI} {mi : MAG} {g : TG} {mg : MG} {t : TT} {mt : MT} {te : TE} {me : ME} (ii : ImIG K ti mi) (ig : ImG K ws g mg) (it : ImT K t mt) (ie : Im K te me) (hw : ∀ i ∈ ws, i ∈ vs) :
    Im K (tLc ti g t te vs) (mLcG c vs mi mg mt me) := fun F φ S H σ env d S' R E h Q a => by
  obtain ⟨⟨items, gd⟩, S1, h1, h⟩ := bnd_some h
  obtain ⟨ds, S2, h2, h⟩ := bnd_some h
  split at h
  · rename_i hz
    have h' : mk c ds S2 = (d, S') := Option.some.inj h
    obtain ⟨hz, hok2⟩ := hz
    refine ii F φ S H σ env (items, gd) S1 R E h1 _ fun φ1 H1 J x1 R1 Wk => ?_
    intro D hD
    have E1 := E.mono x1
    have hf : ∀ a ∈ D :: F, a ∈ F ∨ H1 a = none := fun a ha => by
      rcases List.mem_cons.mp ha with rfl | ha
      · exact .inr hD
      · exact .inl ha
    -- the list at D is nobody's
    refine ⟨fun i k H2 => ∃ φ2 S3 acc rest xs, Ext φ1 H1 φ2 H2 ∧ Rp K (D :: F) φ2 S3 H2 ∧ lcL (gdG gd mg) mt me (wipeE env vs) (items.drop i) S3 = some (rest, S2) ∧ acc ++ rest = ds ∧ RVs K (D :: F) φ2 H2 acc xs ∧ H2 D = some (.lst xs) ∧ i ≤ items.length ∧ k = items.length - i,
      ⟨items.length, φ1, S1, [], ds, [], ?_, ?_, ?_, rfl, .nil, upd_same, Nat.zero_le _, by omega⟩, ?_⟩
    · exact Ext.new hD
    · have R2 := R1.new (o := .lst []) hD
      refine ⟨R2.len, R2.nd, fun i c q => ?_, fun b hb => ?_⟩
      · obtain ⟨b, q1, q2⟩ := R2.cells i c q
        refine ⟨b, q1, ?_⟩
        have hf2 : ∀ a ∈ D :: F, a ∈ F ∨ H1 a = none := hf
        obtain ⟨b0, z1, z2⟩ := R1.cells i c q
        rw [z1] at q1
        cases q1
        have mono : ∀ l xs, RVs K F φ1 H1 l xs → RVs K (D :: F) φ1 (upd H1 D (.lst [])) l xs := fun l xs r => RVs.mono (Ext.new hD) _ _ (RVs.more hf _ _ r)
        have nb : b ≠ D := by
          obtain ⟨u, z3⟩ := z2.there
          exact ne_of_none z3 hD
        cases c with
        | lst l =>
          obtain ⟨xs, z3, z4⟩ := z2
          exact ⟨xs, by rw [upd_ne nb]; exact z3, mono _ _ z4⟩
        | ins C ks vs =>
          obtain ⟨dx, gs, z3, z5, z4⟩ := z2
          exact ⟨dx, gs, by rw [upd_ne nb]; exact z3, z5, mono _ _ z4⟩
      · rcases List.mem_cons.mp hb with rfl | hb
        · exact ⟨R1.fresh hD, _, upd_same⟩
        · exact R2.forb b hb
    · rw [List.drop_zero]
      exact h2
    · rintro i k H2 ⟨φ2, S3, acc, rest, xs, x2, R2, q1, q2, q3, q4, hi, rfl⟩
      have lenX : xs.length = acc.length := q3.length
      have hok : OkG gd S3 := by
        by_cases hlt : i < items.length
        · rw [List.drop_eq_getElem_cons hlt] at q1
          unfold lcL at q1
          obtain ⟨env4, S4, h4, _⟩ := bnd_some (r := (rest, S2)) q1
          exact (gdG_some h4).1
        · rw [List.drop_eq_nil_of_le (by omega)] at q1
          cases q1
          exact hok2
      obtain ⟨w1, w2, w3⟩ := Wk (D :: F) φ2 S3 H2 hf x2 R2 hok
      have nD : D ∉ φ2 := (R2.forb D List.mem_cons_self).1
      by_cases hlt : i < items.length
      · have ed0 : items.drop i = items[i] :: items.drop (i + 1) := List.drop_eq_getElem_cons hlt
        refine .inr ⟨w1 i hlt, fun H3 => ∃ φ3 S4 acc3 rest3 xs3, Ext φ1 H1 φ3 H3 ∧ Rp K (D :: F) φ3 S4 H3 ∧ lcL (gdG gd mg) mt me (wipeE env vs) (items.drop (i + 1)) S4 = some (rest3, S2) ∧ acc3 ++ rest3 = ds ∧ RVs K (D :: F) φ3 H3 acc3 xs3 ∧ H3 D = some (.lst xs3),
          fun H3 ⟨φ3, S4, acc3, rest3, xs3, z1, z2, z3, z4, z5, z6⟩ => ⟨items.length - (i + 1), by omega, φ3, S4, acc3, rest3, xs3, z1, z2, z3, z4, z5, z6, hlt, rfl⟩, fun x H3 y => ?_⟩
        obtain ⟨d0, hd, y1, y2, y3⟩ := w3 i x H3 hlt y
        rw [List.getElem?_eq_getElem hlt] at hd
        cases hd
        rw [ed0] at q1
        unfold lcL at q1
        obtain ⟨env4, S4, h4, q1⟩ := bnd_some (r := (rest, S2)) q1
        obtain ⟨b, S5, h5, q1⟩ := bnd_some (r := (rest, S2)) q1
        have h4 := (gdG_some h4).2
        have E2 : RE K (D :: F) φ2 H3 (wipeE env vs) (L2.wipe σ vs) := ((E1.more hf).mono (x2.trans y1)).wipe vs
        refine ig (D :: F) φ2 S3 H3 (L2.wipe σ vs) (wipeE env vs) items[i] x env4 S4 y2 E2 y3 h4 _ fun φ4 H4 σ4 x4 R4 E4 k4 => ?_
        have xx4 := x2.trans (y1.trans x4)
        have xD4 := y1.trans x4
        have hwipe : L2.wipe σ4 vs = L2.wipe σ vs :=
          (wipe_eq vs k4.1 fun j hj => k4.2 j fun hm => hj (hw j hm)).trans (wipe_eq vs (wipe_length σ vs) fun j hj => wipe_out hj)
        refine ⟨hwipe, it (D :: F) φ4 S4 H4 σ4 env4 b S5 R4 E4 h5 _ fun φ5 H5 x5 R5 => ?_⟩
        cases b with
        | false =>
          rw [if_neg Bool.false_ne_true] at q1 ⊢
          exact ⟨φ5, S5, acc, rest, xs, xx4.trans x5, R5, q1, q2, RVs.mono (xD4.trans x5) _ _ q3, (xD4.trans x5).old _ _ q4 nD⟩
        | true =>
          rw [if_pos rfl] at q1 ⊢
          obtain ⟨d6, S6, h6, q1⟩ := bnd_some (r := (rest, S2)) q1
          obtain ⟨ds7, S7, h7, q1⟩ := bnd_some (r := (rest, S2)) q1
          cases q1
          refine ie (D :: F) φ5 S5 H5 σ4 env4 d6 S6 R5 (E4.mono x5) h6 _ fun φ6 H6 v6 x6 R6 r6 => ?_
          have xD6 := (xD4.trans x5).trans x6
          have g6 : H6 D = some (.lst xs) := xD6.old _ _ q4 nD
          have n6 : D ∉ φ6 := (R6.forb D List.mem_cons_self).1
          have r3 := RVs.mono xD6 _ _ q3
          refine ⟨xs, g6, ?_, φ6, S6, acc ++ [d6], ds7, xs ++ [v6], ?_, ?_, h7, by rw [List.append_assoc]; exact q2, ?_, upd_same⟩
          · rw [lenX]
            have : acc.length + (ds7.length + 1) = ds.length := by rw [← q2, List.length_append, List.length_cons]
            omega
          · have e6 := (xx4.trans x5).trans x6
            refine ⟨e6.pre, fun a o q n => ?_, fun a o q => ?_, fun a ys q => ?_, fun a o u q => ?_⟩
            · rw [upd_ne (ne_of_none q hD)]
              exact e6.old a o q n
            · obtain ⟨o', z⟩ := e6.there a o q
              exact ⟨o', by rw [upd_ne (ne_of_none q hD)]; exact z⟩
            · rw [upd_ne (ne_of_none q hD)]
              exact e6.tup a ys q
            · rw [upd_ne (ne_of_none q hD)]
              exact e6.frz a o u q
          · refine ⟨R6.len, R6.nd, fun j c q => ?_, fun b hb => ?_⟩
            · obtain ⟨b, z1, z2⟩ := R6.cells j c q
              have nb : b ≠ D := fun z => n6 (z ▸ List.mem_of_getElem? z1)
              refine ⟨b, z1, ?_⟩
              cases c with
              | lst l =>
                obtain ⟨ys, z3, z4⟩ := z2
                exact ⟨ys, by rw [upd_ne nb]; exact z3, RVs.upd List.mem_cons_self g6 _ _ z4⟩
              | ins C ks us =>
                obtain ⟨dx, gs, z3, z5, z4⟩ := z2
                exact ⟨dx, gs, by rw [upd_ne nb]; exact z3, z5, RVs.upd List.mem_cons_self g6 _ _ z4⟩
            · obtain ⟨z1, u, z2⟩ := R6.forb b hb
              by_cases hb2 : b = D
              · subst hb2
                exact ⟨z1, _, upd_same⟩
              · exact ⟨z1, u, by rw [upd_ne hb2]; exact z2⟩
          · exact RVs.upd List.mem_cons_self g6 _ _ (r3.append (.cons r6 .nil))
      · have e : i = items.length := by omega
        subst e
        rw [List.drop_length] at q1
        cases q1
        rw [List.append_nil] at q2
        subst q2
        refine .inl ⟨w2, ?_⟩
        have nF : D ∉ F := fun hm => by
          obtain ⟨_, o, q⟩ := R1.forb D hm
          rw [hD] at q
          cases q
        have back : ∀ l ys, RVs K (D :: F) φ2 H2 l ys → RVs K F (φ2 ++ []) H2 l ys := fun l ys r => RVs.adopt (D := D) (fun a ha => by cases ha) (fun a ha => List.mem_cons_of_mem _ ha) _ _ r
        have adopt : ∀ l ys, RVs K (D :: F) φ2 H2 l ys → RVs K F (φ2 ++ [D]) H2 l ys := fun l ys r => RVs.adopt (D := D) (fun a ha => by rw [List.mem_singleton.mp ha]; exact List.mem_cons_self) (fun a ha => List.mem_cons_of_mem _ ha) _ _ r
        cases c with
        | false =>
          cases h'
          refine a φ2 H2 _ (x1.trans x2) ⟨R2.len, R2.nd, fun j c q => ?_, fun b hb => R2.forb b (List.mem_cons_of_mem _ hb)⟩ ?_
          · obtain ⟨b, z1, z2⟩ := R2.cells j c q
            refine ⟨b, z1, ?_⟩
            cases c with
            | lst l =>
              obtain ⟨ys, z3, z4⟩ := z2
              exact ⟨ys, z3, by simpa using back _ _ z4⟩
            | ins C ks us =>
              obtain ⟨dx, gs, z3, z5, z4⟩ := z2
              exact ⟨dx, gs, z3, z5, by simpa using back _ _ z4⟩
          · unfold RV
            exact ⟨D, xs, rfl, nD, nF, q4, by simpa using back _ _ q3⟩
        | true =>
          cases h'
          refine a (φ2 ++ [D]) H2 _ (x1.trans ⟨?_, x2.old, x2.there, x2.tup, x2.frz⟩) ⟨by simp [R2.len], ?_, fun j c q => ?_, fun b hb => ?_⟩ ?_
          · obtain ⟨ψ, z1, z2⟩ := x2.pre
            exact ⟨ψ ++ [D], by rw [z1, List.append_assoc], fun b hb => by
              rcases List.mem_append.mp hb with hb | hb
              · exact z2 b hb
              · rw [List.mem_singleton.mp hb]
                exact hD⟩
          · rw [List.nodup_append]
            refine ⟨R2.nd, by simp, fun b hb b2 hb2 => ?_⟩
            rw [List.mem_singleton.mp hb2]
            exact fun z => nD (z ▸ hb)
          · by_cases hj : j < S2.length
            · rw [List.getElem?_append_left hj] at q
              obtain ⟨b, z1, z2⟩ := R2.cells j c q
              refine ⟨b, by rw [List.getElem?_append_left (List.getElem?_eq_some_iff.mp z1).1]; exact z1, ?_⟩
              cases c with
              | lst l =>
                obtain ⟨ys, z3, z4⟩ := z2
                exact ⟨ys, z3, adopt _ _ z4⟩
              | ins C ks us =>
                obtain ⟨dx, gs, z3, z5, z4⟩ := z2
                exact ⟨dx, gs, z3, z5, adopt _ _ z4⟩
            · have hl2 : j < (S2 ++ [Cell.lst acc]).length := (List.getElem?_eq_some_iff.mp q).1
              rw [List.length_append, List.length_singleton] at hl2
              have ej : j = S2.length := by omega
              subst ej
              rw [List.getElem?_append_right (Nat.le_refl _)] at q
              simp at q
              subst q
              refine ⟨D, ?_, xs, q4, adopt _ _ q3⟩
              rw [← R2.len, List.getElem?_append_right (Nat.le_refl _)]
              simp
          · obtain ⟨z1, u, z2⟩ := R2.forb b (List.mem_cons_of_mem _ hb)
            refine ⟨fun hm => ?_, u, z2⟩
            rcases List.mem_append.mp hm with hm | hm
            · exact z1 hm
            · rw [List.mem_singleton.mp hm] at hb
              exact nF hb
          · unfold RV
            refine ⟨D, rfl, ?_⟩
            rw [← R2.len, List.getElem?_append_right (Nat.le_refl _)]
            simp
  · cases h
section
variable {X : Cx}
theorem ei_lcG (c : Bool) {elt tg iter : Expr} {ifs : List Expr} {scope : Scope} {own : List (Str × Nat)} {pos : Pos} {mi : MAG} {ws : List Nat} {mg : MG} {mt : MT} {me : ME} (hc : X.calm = true) (hN : X.N.Nodup) (hi : IIG X tg iter mi) (ok : BlkOk X.N X.env.scope scope own)
    (hg : ∀ (s : Shared) (H : Hp) (C : Addr) (cl : List (Str × Addr)) (fp : List Addr), GI (X.blk s H scope (compEnvC scope cl C X.env) fp) ws tg mg)
    (ht : ∀ (s : Shared) (H : Hp) (C : Addr) (cl : List (Str × Addr)) (fp : List Addr), TsI (X.blk s H scope (compEnvC scope cl C X.env) fp) ifs mt)
    (he : ∀ (s : Shared) (H : Hp) (C : Addr) (cl : List (Str × Addr)) (fp : List Addr), EI (X.blk s H scope (compEnvC scope cl C X.env) fp) elt me) (hw : ∀ i ∈ ws, i ∈ own.map (·.2)) (hs : ∀ x, foldedSetIterable iter X.env x = pure x := by intro _; rfl) :
    EI X (.ListComp elt [⟨tg, iter, ifs, 0⟩] scope pos) (mLcG c (own.map (·.2)) mi mg mt me) := by
  obtain ⟨ti, pi, ii⟩ := hi
  exact ⟨_, pe_lc hc hN pi ok (fun s H C cl fp => (hg s H C cl fp).can) (fun s H C cl fp => (ht s H C cl fp).can) (fun s H C cl fp => (he s H C cl fp).can) hs, im_lcG c ii imG_can imT_can im_can hw⟩
theorem si_setLcG (c : Bool) {i : Nat} {y : Str} {py : Pos} {elt tg iter : Expr} {ifs : List Expr} {scope : Scope} {own : List (Str × Nat)} {pos spos : Pos} {mi : MAG} {ws : List Nat} {mg : MG} {mt : MT} {me : ME} (hc : X.calm = true) (hN : X.N.Nodup) (hy : X.N[i]? = some y) (hyl : X.env.scope.names.lookup y = some .local)
    (hsw : swapsWith (.ListComp elt [⟨tg, iter, ifs, 0⟩] scope pos) (some (.Name y py)) spos.line X.env = pure true) (hi : IIG X tg iter mi) (ok : BlkOk X.N X.env.scope scope own)
    (hg : ∀ (s : Shared) (H : Hp) (C : Addr) (cl : List (Str × Addr)) (fp : List Addr), GI (X.blk s H scope (compEnvC scope cl C X.env) fp) ws tg mg)
    (ht : ∀ (s : Shared) (H : Hp) (C : Addr) (cl : List (Str × Addr)) (fp : List Addr), TsI (X.blk s H scope (compEnvC scope cl C X.env) fp) ifs mt)
    (he : ∀ (s : Shared) (H : Hp) (C : Addr) (cl : List (Str × Addr)) (fp : List Addr), EI (X.blk s H scope (compEnvC scope cl C X.env) fp) elt me) (hw : ∀ i ∈ ws, i ∈ own.map (·.2)) (hs : ∀ x, foldedSetIterable iter X.env x = pure x := by intro _; rfl) :
    SI X (.Assign [.Name y py] (.ListComp elt [⟨tg, iter, ifs, 0⟩] scope pos) spos) (mSet (mLcG c (own.map (·.2)) mi mg mt me) (gN i)) := by
  obtain ⟨ti, pi, ii⟩ := hi
  exact ⟨_, ps_setLc hc hN hy hyl hsw pi ok (fun s H C cl fp => (hg s H C cl fp).can) (fun s H C cl fp => (ht s H C cl fp).can) (fun s H C cl fp => (he s H C cl fp).can) hs, im_set (im_lcG c ii imG_can imT_can im_can hw) im_gn⟩
end
/-! ### what is walked so -/
theorem WalkI.g {K : Frg} {F φ : List Addr} {H : Hp} {J : It} {l : List Val} {gd : Gd} (w : WalkI K F φ H J l) : WalkG K F φ H J l gd := fun F' φ' S H' hf e R _ => w F' φ' S H' hf e R
/-- the list, and the guard that it wants -/
def lstG (S : Store) : Val → Option (List Val × Gd)
  | .fro l => some (l, [])
  | .scr l => some (l, [])
  | .ref i => match S[i]? with
    | some (.lst l) => some (l, [(i, l)])
    | _ => none
  | _ => none
/-- a list that stays one where its guard stands -/
theorem lstG_of {K : Frg} {F φ : List Addr} {S : Store} {H : Hp} {d : Val} {v : V} {l : List Val} {gd : Gd} (R : Rp K F φ S H) (e : lstG S d = some (l, gd)) (r : RV K F φ H d v) : ∃ a xs, v = .ref a ∧ RVs K F φ H l xs ∧ SqL K H a xs ∧
    ∀ F' φ' (S' : Store) H', (∀ a ∈ F', a ∈ F ∨ H a = none) → Ext φ H φ' H' → Rp K F' φ' S' H' → OkG gd S' → ∃ ys, SqL K H' a ys ∧ RVs K F' φ' H' l ys := by
  have fro : ∀ l', froOf d = some l' → lstG S d = some (l', []) → ∃ a xs, v = .ref a ∧ RVs K F φ H l xs ∧ SqL K H a xs ∧
    ∀ F' φ' (S' : Store) H', (∀ a ∈ F', a ∈ F ∨ H a = none) → Ext φ H φ' H' → Rp K F' φ' S' H' → OkG gd S' → ∃ ys, SqL K H' a ys ∧ RVs K F' φ' H' l ys := fun l' h1 h2 => by
    rw [e] at h2
    cases h2
    obtain ⟨a, xs, k1, k2, k3, k4⟩ := fro_of h1 r
    exact ⟨a, xs, k1, k2, k3, fun F' φ' S' H' hf x R' _ => ⟨xs, k4 F' φ' S' H' hf x R', RVs.mono x _ _ (RVs.more hf _ _ k2)⟩⟩
  cases d with
  | fro l' => exact fro l' rfl rfl
  | scr l' => exact fro l' rfl rfl
  | ref i =>
    unfold lstG at e
    dsimp only at e
    split at e
    · rename_i l0 q
      cases e
      unfold RV at r
      obtain ⟨a, rfl, ha⟩ := r
      obtain ⟨xs, h3, h4⟩ := R.lst ha q
      refine ⟨a, xs, rfl, h4, SqL.of h3, fun F' φ' S' H' hf x R' ok => ?_⟩
      obtain ⟨ys, k3, k4⟩ := R'.lst (x.at ha) (ok _ (List.mem_singleton.mpr rfl))
      exact ⟨ys, SqL.of k3, k4⟩
    · cases e
  | _ => cases e
theorem walk_lG {K : Frg} {F φ : List Addr} {H : Hp} {a : Addr} {l : List Val} {gd : Gd} (hs : ∀ F' φ' (S' : Store) H', (∀ a ∈ F', a ∈ F ∨ H a = none) → Ext φ H φ' H' → Rp K F' φ' S' H' → OkG gd S' → ∃ ys, SqL K H' a ys ∧ RVs K F' φ' H' l ys) : WalkG K F φ H (Itl K a) l gd := fun F' φ' S H' hf e R ok => by
  obtain ⟨xs, q, r'⟩ := hs F' φ' S H' hf e R ok
  refine ⟨fun i hi => ?_, ⟨xs, q, by rw [r'.length]; exact Nat.le_refl _⟩, fun i x H2 hi y => ?_⟩
  · obtain ⟨v, h1, _⟩ := r'.get (List.getElem?_eq_getElem hi)
    exact ⟨xs, v, q, h1⟩
  · obtain ⟨rfl, y⟩ := y
    obtain ⟨d, h1, h2⟩ := r'.get' (y xs q)
    exact ⟨d, h1, Ext.refl, R, h2⟩
theorem walk_eG {K : Frg} {F φ : List Addr} {H : Hp} {a : Addr} {l : List Val} {gd : Gd} (hs : ∀ F' φ' (S' : Store) H', (∀ a ∈ F', a ∈ F ∨ H a = none) → Ext φ H φ' H' → Rp K F' φ' S' H' → OkG gd S' → ∃ ys, SqL K H' a ys ∧ RVs K F' φ' H' l ys) :
    WalkG K F φ H (Ite K a) (l.mapIdx fun i x => .tup [.int (i : Nat), x]) gd := fun F' φ' S H' hf e R ok => by
  obtain ⟨xs, q, r'⟩ := hs F' φ' S H' hf e R ok
  have hl : (l.mapIdx fun i x => Val.tup [.int (i : Nat), x]).length = l.length := List.length_mapIdx
  refine ⟨fun i hi => ?_, ⟨xs, q, by rw [hl, r'.length]; exact Nat.le_refl _⟩, fun i x H2 hi y => ?_⟩
  · rw [hl] at hi
    obtain ⟨v, h1, _⟩ := r'.get (List.getElem?_eq_getElem hi)
    exact ⟨xs, v, q, h1⟩
  · obtain ⟨T, x', rfl, hT, rfl, y⟩ := y
    obtain ⟨d, h1, h2⟩ := r'.get' (y xs q)
    refine ⟨.tup [.int (i : Nat), d], ?_, Ext.new hT, R.new hT, ?_⟩
    · rw [List.getElem?_mapIdx, h1]
      rfl
    · unfold RV
      exact ⟨T, _, rfl, SqT.of upd_same, .cons rv_int (.cons (RV.mono (Ext.new hT) _ _ h2) .nil)⟩
theorem walk_zG {K : Frg} {F φ : List Addr} {H : Hp} {a b : Addr} {l k : List Val} {gd gd2 : Gd} (hs : ∀ F' φ' (S' : Store) H', (∀ a ∈ F', a ∈ F ∨ H a = none) → Ext φ H φ' H' → Rp K F' φ' S' H' → OkG gd S' → ∃ ys, SqL K H' a ys ∧ RVs K F' φ' H' l ys)
    (gs : ∀ F' φ' (S' : Store) H', (∀ a ∈ F', a ∈ F ∨ H a = none) → Ext φ H φ' H' → Rp K F' φ' S' H' → OkG gd2 S' → ∃ ys, SqL K H' b ys ∧ RVs K F' φ' H' k ys) :
    WalkG K F φ H (Itz K a b) (List.zipWith (fun x y => .tup [x, y]) l k) (gd ++ gd2) := fun F' φ' S H' hf e R ok => by
  obtain ⟨xs, q, r'⟩ := hs F' φ' S H' hf e R fun p hp => ok p (List.mem_append_left _ hp)
  obtain ⟨ys, q2, r2'⟩ := gs F' φ' S H' hf e R fun p hp => ok p (List.mem_append_right _ hp)
  have hl : (List.zipWith (fun x y => Val.tup [x, y]) l k).length = min l.length k.length := List.length_zipWith
  have l1 := r'.length
  have l2 := r2'.length
  refine ⟨fun i hi => ?_, ⟨xs, ys, q, q2, by rw [hl, l1, l2]; omega⟩, fun i x H2 hi y => ?_⟩
  · rw [hl] at hi
    obtain ⟨v, h1, _⟩ := r'.get (List.getElem?_eq_getElem (i := i) (by omega))
    obtain ⟨v2, h2, _⟩ := r2'.get (List.getElem?_eq_getElem (i := i) (by omega))
    exact ⟨xs, ys, v, v2, q, q2, h1, h2⟩
  · obtain ⟨T, x', y', rfl, hT, rfl, g1, g2⟩ := y
    obtain ⟨d, h1, h2⟩ := r'.get' (g1 xs q)
    obtain ⟨d2, h3, h4⟩ := r2'.get' (g2 ys q2)
    refine ⟨.tup [d, d2], ?_, Ext.new hT, R.new hT, ?_⟩
    · rw [List.getElem?_zipWith, h1, h3]
    · unfold RV
      exact ⟨T, _, rfl, SqT.of upd_same, .cons (RV.mono (Ext.new hT) _ _ h2) (.cons (RV.mono (Ext.new hT) _ _ h4) .nil)⟩
section
variable {X : Cx} {tg e e2 : Expr} {m : ME} {ms : MA} {p pos : Pos}
def mItemsG (m : ME) : MAG := fun env S => bnd (m env S) fun d S1 => match d with
  | .tup l => some ((l, []), S1)
  | .str z => some ((signs z, []), S1)
  | d => (lstG S1 d).map fun q => (q, S1)
def mEnumG (ms : MA) : MAG := fun env S => bnd (ms env S) fun ds S1 => match ds with
  | [d] => (lstG S1 d).map fun q => ((q.1.mapIdx fun i x => .tup [.int (i : Nat), x], q.2), S1)
  | _ => none
def mZipG (ms : MA) : MAG := fun env S => bnd (ms env S) fun ds S1 => match ds with
  | [.tup l, .tup k] => some ((List.zipWith (fun x y => .tup [x, y]) l k, []), S1)
  | [a, b] => (lstG S1 a).bind fun l => (lstG S1 b).map fun k => ((List.zipWith (fun x y => .tup [x, y]) l.1 k.1, l.2 ++ k.2), S1)
  | _ => none
theorem ii_g {mi : MA} (h : II X tg e mi) : IIG X tg e (fun env S => (mi env S).map fun r => ((r.1, []), r.2)) := by
  obtain ⟨t, p, i⟩ := h
  refine ⟨t, p, fun F φ S H σ env ds S' R E h Q a => ?_⟩
  dsimp only at h
  cases q : mi env S with
  | none => rw [q] at h; cases h
  | some r =>
    rw [q] at h
    cases h
    exact i F φ S H σ env r.1 r.2 R E q Q fun φ' H' J x1 R1 w => a φ' H' J x1 R1 w.g
theorem ii_vG (h : EI X e m) : IIG X tg e (mItemsG m) := by
  obtain ⟨t, p, i⟩ := h
  refine ⟨_, pi_or (pi_list p) (pi_or (pi_tup p) (pi_str p)), fun F φ S H σ env ds S' R E h0 Q a => ?_⟩
  obtain ⟨d, S1, h1, h⟩ := bnd_some h0
  clear h0
  split at h
  · rename_i l
    cases h
    refine .inr (.inl (i F φ S H σ env _ S' R E h1 _ fun φ1 H1 v e1 R1 r1 => ?_))
    obtain ⟨b, xs, k1, k2, k3⟩ := tup_of (d := .tup l) rfl r1
    exact ⟨b, k1, ⟨xs, k2⟩, a φ1 H1 _ e1 R1 (walk_t k2 k3).g⟩
  · rename_i z
    cases h
    refine .inr (.inr (i F φ S H σ env _ S' R E h1 _ fun φ1 H1 v e1 R1 r1 => ?_))
    exact ⟨_, r1.str, a φ1 H1 _ e1 R1 walk_s.g⟩
  · cases e0 : lstG S1 d with
    | none => rw [e0] at h; cases h
    | some q =>
      rw [e0] at h
      cases h
      refine .inl (i F φ S H σ env _ S' R E h1 _ fun φ1 H1 v e1 R1 r1 => ?_)
      obtain ⟨b, xs, k1, k2, k3, k4⟩ := lstG_of (l := ds.1) (gd := ds.2) R1 e0 r1
      exact ⟨b, k1, ⟨xs, k3⟩, a φ1 H1 _ e1 R1 (walk_lG k4)⟩
theorem ii_enumG {tpos : Pos} {elts : List Expr} {kk : Nat} (hg : Gl X "enumerate") (hm : X.mg "enumerate" = none) (ha : AI X [e] ms) (hs : starEach [e] X.env = [(false, eval e X.env)] := by rfl) :
    IIG X (.Tuple elts kk tpos) (.Call (.Name "enumerate" p) [e] [] pos) (mEnumG ms) := by
  obtain ⟨t, p, i⟩ := ha
  refine ⟨_, pi_enum hg hm p hs, fun F φ S H σ env ds S' R E h0 Q a => ?_⟩
  obtain ⟨d, S1, h1, h⟩ := bnd_some h0
  clear h0
  split at h
  · rename_i d0
    cases e0 : lstG S1 d0 with
    | none => rw [e0] at h; cases h
    | some q =>
      rw [e0] at h
      cases h
      refine i F φ S H σ env _ S' R E h1 _ fun φ1 H1 vs e1 R1 r1 => ?_
      obtain ⟨v, ws, g1, g2, g3⟩ := r1.inv
      obtain ⟨b, xs, k1, k2, k3, k4⟩ := lstG_of (l := q.1) (gd := q.2) R1 e0 g2
      exact ⟨b, xs, by rw [g1, g3.inv0, k1], k3, a φ1 H1 _ e1 R1 (walk_eG k4)⟩
  · cases h
theorem ii_zipG {tpos : Pos} {elts : List Expr} {kk : Nat} (hg : Gl X "zip") (hm : X.mg "zip" = none) (ha : AI X [e, e2] ms)
    (hs : starEach [e, e2] X.env = (false, eval e X.env) :: starEach [e2] X.env := by rfl) (hpl : (backTo pos (starEach [e2] X.env)).any (·.1) = false := by rfl) :
    IIG X (.Tuple elts kk tpos) (.Call (.Name "zip" p) [e, e2] [] pos) (mZipG ms) := by
  obtain ⟨t, p, i⟩ := ha
  refine ⟨_, RZ.pi_zipA hg hm p hs hpl, fun F φ S H σ env ds S' R E h0 Q a => ?_⟩
  obtain ⟨d, S1, h1, h⟩ := bnd_some h0
  clear h0
  split at h
  · rename_i l k
    cases h
    refine i F φ S H σ env _ S' R E h1 _ fun φ1 H1 vs e1 R1 r1 => ?_
    obtain ⟨v, ws, g1, g2, g3⟩ := r1.inv
    obtain ⟨v', ws', k1, k2, k3⟩ := g3.inv
    unfold RV at g2 k2
    obtain ⟨b, xs, q1, q2, q3⟩ := g2
    obtain ⟨b', xs', q1', q2', q3'⟩ := k2
    exact ⟨b, b', xs, xs', by rw [g1, k1, k3.inv0, q1, q1'], .inr ⟨q2, q2', a φ1 H1 _ e1 R1 (walk_zt q2 q3 q2' q3').g⟩⟩
  · rename_i d1 d2 _
    cases e0 : lstG S1 d1 with
    | none => rw [e0] at h; cases h
    | some l =>
      rw [e0] at h
      simp only [Option.bind_some] at h
      cases e1 : lstG S1 d2 with
      | none => rw [e1] at h; cases h
      | some k =>
        rw [e1] at h
        cases h
        refine i F φ S H σ env _ S' R E h1 _ fun φ1 H1 vs x1 R1 r1 => ?_
        obtain ⟨v, ws, g1, g2, g3⟩ := r1.inv
        obtain ⟨v', ws', k1, k2, k3⟩ := g3.inv
        obtain ⟨b, xs, q1, q2, q3, q4⟩ := lstG_of (l := l.1) (gd := l.2) R1 e0 g2
        obtain ⟨b', xs', q1', q2', q3', q4'⟩ := lstG_of (l := k.1) (gd := k.2) R1 e1 k2
        exact ⟨b, b', xs, xs', by rw [g1, k1, k3.inv0, q1, q1'], .inl ⟨q3, q3', a φ1 H1 _ x1 R1 (walk_zG q4 q4')⟩⟩
  · cases h
end
end Fx
/-! list(range(..)), pop(i), enumerate of either kind. -/
namespace Fx
open PySem PySem.Spec PyProof.Rows L2
instance (a b : Int) : Decidable (RgOk a b) := by unfold RgOk; infer_instance
theorem rvs_rg {K : Frg} {F φ : List Addr} {H : Hp} (a b : Int) : RVs K F φ H (rangeV a (b - a).toNat) (rgV a b) := by
  unfold rangeV rgV
  generalize List.range (b - a).toNat = l
  induction l with
  | nil => exact .nil
  | cons i l ih => exact .cons rv_int ih
section
variable {X : Cx} {e e2 : Expr} {m m2 : ME} {p p2 pos pos2 : Pos}
def mLstRg1 (c : Bool) (m : ME) : ME := fun env S => bnd (m env S) fun d S1 => match d with
  | .int n => if RgOk 0 n then some (mk c (rangeV 0 (n - 0).toNat) S1) else none
  | _ => none
def mLstRg2 (c : Bool) (m m2 : ME) : ME := fun env S => bnd (m env S) fun d S1 => bnd (m2 env S1) fun d2 S2 => match d, d2 with
  | .int a, .int b => if RgOk a b then some (mk c (rangeV a (b - a).toNat) S2) else none
  | _, _ => none
theorem ei_listRg1 (c : Bool) (hc : X.calm = true) (hg : Gl X "list") (hm : X.mg "list" = none) (hg2 : Gl X "range") (hm2 : X.mg "range" = none) (ha : EI X e m)
    (na : starEach [e] X.env = (false, eval e X.env) :: starEach [] X.env := by rfl) (na2 : starEach [.Call (.Name "range" p2) [e] [] pos2] X.env = (false, eval (.Call (.Name "range" p2) [e] [] pos2) X.env) :: starEach [] X.env := by rfl) :
    EI X (.Call (.Name "list" p) [.Call (.Name "range" p2) [e] [] pos2] [] pos) (mLstRg1 c m) := by
  obtain ⟨t, pa, i⟩ := ha
  refine ⟨_, pe_listRg hc hg hm (prg_1 hg2 hm2 pa na) na2, fun F φ S H σ env d S' R E h Q a => ?_⟩
  obtain ⟨d0, S1, h1, h⟩ := bnd_some h
  split at h
  · rename_i n
    split at h
    · rename_i hz
      have h' : mk c (rangeV 0 (n - 0).toNat) S1 = (d, S') := Option.some.inj h
      refine i F φ S H σ env _ S1 R E h1 _ fun φ1 H1 v e1 R1 r1 => ?_
      refine ⟨n, r1.int, hz, fun q hq => ?_⟩
      refine Aft.mk (c := c) (S := S1) ?_ R1 (rvs_rg 0 n) hq
      rw [h']
      exact a.mono e1
    · cases h
  · cases h
theorem ei_listRg2 (c : Bool) (hc : X.calm = true) (hg : Gl X "list") (hm : X.mg "list" = none) (hg2 : Gl X "range") (hm2 : X.mg "range" = none) (ha : EI X e m) (hb : EI X e2 m2)
    (na : starEach [e, e2] X.env = (false, eval e X.env) :: starEach [e2] X.env := by rfl) (nb : starEach [e2] X.env = (false, eval e2 X.env) :: starEach [] X.env := by rfl) (hp : (backTo pos2 (starEach [e2] X.env)).any (·.1) = false := by rfl)
    (na2 : starEach [.Call (.Name "range" p2) [e, e2] [] pos2] X.env = (false, eval (.Call (.Name "range" p2) [e, e2] [] pos2) X.env) :: starEach [] X.env := by rfl) :
    EI X (.Call (.Name "list" p) [.Call (.Name "range" p2) [e, e2] [] pos2] [] pos) (mLstRg2 c m m2) := by
  obtain ⟨t, pa, i⟩ := ha
  obtain ⟨t2, pb, i2⟩ := hb
  refine ⟨_, pe_listRg hc hg hm (prg_2 hg2 hm2 pa pb na nb hp) na2, fun F φ S H σ env d S' R E h Q a => ?_⟩
  obtain ⟨d0, S1, h1, hh⟩ := bnd_some h
  obtain ⟨d1, S2, h2, hx⟩ := bnd_some hh
  clear h hh
  obtain ⟨n, rfl⟩ : ∃ n, d0 = .int n := by cases d0 <;> first | exact ⟨_, rfl⟩ | cases hx
  obtain ⟨k, rfl⟩ : ∃ n, d1 = .int n := by cases d1 <;> first | exact ⟨_, rfl⟩ | cases hx
  dsimp only at hx
  · split at hx
    · rename_i hz
      have h' : mk c (rangeV n (k - n).toNat) S2 = (d, S') := Option.some.inj hx
      refine i F φ S H σ env _ S1 R E h1 _ fun φ1 H1 v e1 R1 r1 => ?_
      refine i2 F φ1 S1 H1 σ env _ S2 R1 (E.mono e1) h2 _ fun φ2 H2 v2 e2 R2 r2 => ?_
      refine ⟨n, k, r1.int, r2.int, hz, fun q hq => ?_⟩
      refine Aft.mk (c := c) (S := S2) ?_ R2 (rvs_rg n k) hq
      rw [h']
      exact a.mono (e1.trans e2)
    · cases hx
/-- enumerate of a list or of a tuple, a guard where one is wanted -/
theorem pi_orG {tg : Expr} {mi mj : MAG} (h : IIG X tg e mi) (g : IIG X tg e mj) : IIG X tg e (fun env S => (mi env S).or (mj env S)) := by
  obtain ⟨t, p, i⟩ := h
  obtain ⟨u, q, j⟩ := g
  refine ⟨_, pi_or p q, fun F φ S H σ env ds S' R E h Q a => ?_⟩
  dsimp only at h
  cases q1 : mi env S with
  | none =>
    rw [q1] at h
    exact .inr (j F φ S H σ env ds S' R E h Q a)
  | some r =>
    rw [q1] at h
    cases h
    exact .inl (i F φ S H σ env ds S' R E q1 Q a)
def mEnumA (ms : MA) : MA := fun env S => bnd (ms env S) fun ds S1 => match ds with
  | [.tup l] => some (l.mapIdx fun i x => .tup [.int (i : Nat), x], S1)
  | [d] => (froOf d).map fun l => (l.mapIdx fun i x => .tup [.int (i : Nat), x], S1)
  | _ => none
theorem ii_enumA {ms : MA} {tpos : Pos} {elts : List Expr} {kk : Nat} (hg : Gl X "enumerate") (hm : X.mg "enumerate" = none) (ha : AI X [e] ms) (hs : starEach [e] X.env = [(false, eval e X.env)] := by rfl) :
    II X (.Tuple elts kk tpos) (.Call (.Name "enumerate" p) [e] [] pos) (mEnumA ms) := by
  obtain ⟨t, pp, i⟩ := ii_enum (X := X) (elts := elts) (kk := kk) (tpos := tpos) (p := p) (pos := pos) hg hm ha hs
  obtain ⟨u, qq, j⟩ := ii_enumT (X := X) (elts := elts) (kk := kk) (tpos := tpos) (p := p) (pos := pos) hg hm ha hs
  refine ⟨_, pi_or pp qq, fun F φ S H σ env ds S' R E h0 Q a => ?_⟩
  obtain ⟨d, S1, h1, h⟩ := bnd_some h0
  clear h0
  split at h
  · refine .inr (j F φ S H σ env ds S' R E ?_ Q a)
    show bnd (ms env S) _ = _
    rw [h1, bnd_ok]
    exact h
  · refine .inl (i F φ S H σ env ds S' R E ?_ Q a)
    show bnd (ms env S) _ = _
    rw [h1, bnd_ok]
    exact h
  · cases h
/-! ### pop(i) -/
def vPopAt : MMt := fun a as S => match a, as with
  | .ref r, [.int i] => match S[r]? with
    | some (.lst l) => if -(2 ^ 63) ≤ i ∧ i < 2 ^ 63 then (seqIndex? i l.length).bind fun k => (l[k]?).map fun d => (d, S.set r (.lst (l.eraseIdx k))) else none
    | _ => none
  | _, _ => none
theorem RVs.erase {K : Frg} {F φ : List Addr} {H : Hp} : ∀ {l : List Val} {xs : List V} (k : Nat), RVs K F φ H l xs → RVs K F φ H (l.eraseIdx k) (xs.eraseIdx k)
  | [], xs, k, r => by rw [r.inv0]; simpa using RVs.nil
  | d :: l, xs, 0, r => by
    obtain ⟨v, ws, h1, h2, h3⟩ := r.inv
    rw [h1]
    exact h3
  | d :: l, xs, k + 1, r => by
    obtain ⟨v, ws, h1, h2, h3⟩ := r.inv
    rw [h1]
    exact .cons h2 (RVs.erase k h3)
theorem opm_popAt {X : Cx} : OpM X "list.pop" vPopAt := ⟨_, mt_popAt, fun F φ S H a as x xs d S' R ra rs e Q q => by
  unfold vPopAt at e
  split at e
  · rename_i r i
    split at e
    · rename_i l hl
      split at e
      · rename_i hz
        cases e0 : seqIndex? i l.length with
        | none => rw [e0] at e; cases e
        | some k =>
          rw [e0] at e
          simp only [Option.bind_some] at e
          cases e1 : l[k]? with
          | none => rw [e1] at e; cases e
          | some y =>
            rw [e1] at e
            cases e
            obtain ⟨v, ws, h1, h2, h3⟩ := rs.inv
            unfold RV at ra
            obtain ⟨p, rfl, hp⟩ := ra
            obtain ⟨ys, h4, h5⟩ := R.lst hp hl
            obtain ⟨u, h6, h7⟩ := h5.get e1
            obtain ⟨x1, R1⟩ := R.set hp hl (RVs.erase k h5)
            exact ⟨p, ys, i, k, u, rfl, by rw [h1, h3.inv0, h2.int], h4, hz.1, hz.2, by rw [h5.length]; exact e0, h6, q φ _ _ x1 R1 (RV.mono x1 _ _ h7)⟩
      · cases e
    · cases e
  · cases e⟩
end
end Fx
/-! zip where the target is one name: the tuple that was handed out may live on. -/
namespace Fx
open PySem PySem.Spec PyProof.Rows L2
section
variable {prog : Program} {w : World} {A : Around} {E : Value → Shared → Prop} {s : Shared}
theorem wpAny_lia {a : Addr} {Q : Option Obj → Shared → Prop} (h : Q (s.heap.get? a) s) : wpAny (model prog w) A (loadIfAlive a) Q E s := by
  intro Γ p hp
  unfold loadIfAlive
  rw [Sem.wp_loadIfAlive]
  exact (wpAny_pure h : wpAny (model prog w) A (pure (s.heap.get? a)) Q E s) Γ p hp
abbrev IsZipB (h : Heap) (z TI TO : Addr) (f0 : Value) (b : Bool) : Prop :=
  h.get? z = some { cls := .type "zip", dict := none, data := .fields #[f0, .bool b, .bool false, .ref TI, .ref TO], slots := #[] }
/-- none was handed out, or one that may live -/
def Owned (f0 : Value) : Prop := f0 = .none ∨ ∃ T : Addr, f0 = rawInt T
theorem owned_free {z TI TO : Addr} {f0 : Value} {b : Bool} {Q : Bool → Shared → Prop} (hz : IsZipB s.heap z TI TO f0 b) (ho : Owned f0)
    (h1 : Q true s) (h2 : ∀ h', IsZipB h' z TI TO f0 true → Heap.SameBut z s.heap h' → Q false { s with heap := h' }) : wpAny (model prog w) A (Builtin.SmallTypes.ownedTupleIsFree (.ref z)) Q E s := by
  unfold Builtin.SmallTypes.ownedTupleIsFree
  rcases ho with rfl | ⟨T, rfl⟩
  · exact wpAny_bind (wpAny_field hz rfl (x := .none) rfl (wpAny_pure h1))
  · refine wpAny_bind (wpAny_field hz rfl (x := rawInt T) rfl ?_)
    show wpAny _ _ (loadIfAlive T >>= _) _ _ _
    refine wpAny_bind (wpAny_lia ?_)
    cases q : s.heap.get? T with
    | none => exact wpAny_pure h1
    | some o =>
      show wpAny _ _ (field (.ref z) 1 >>= _) _ _ _
      refine wpAny_bind (wpAny_field hz rfl (x := .bool b) rfl ?_)
      cases b with
      | true =>
        exact wpAny_pure (h2 s.heap hz (Heap.SameBut.refl ..))
      | false =>
        refine wpAny_bind (wpAny_setField_rec hz (by simp) fun h₁ hz₁ hs₁ => ?_)
        exact wpAny_pure (h2 h₁ hz₁ hs₁)
theorem zip_itemB {z TI TO i1 i2 l1 l2 : Addr} {k1 k2 : Nat} {xs ys : Array Value} {x y a b f0 : Value} {fl : Bool} {Q : Value → Shared → Prop} (D : ZipApart z TI TO i1 i2 l1 l2)
    (hz : IsZipB s.heap z TI TO f0 fl) (ho : Owned f0) (hTI : IsPair s.heap TI (.ref i1) (.ref i2)) (hTO : IsPair s.heap TO a b)
    (h1 : s.heap.IsListIter i1 l1 k1) (h2 : s.heap.IsListIter i2 l2 k2) (hl1 : s.heap.IsList l1 xs) (hl2 : s.heap.IsList l2 ys) (hx : xs[k1]? = some x) (hy : ys[k2]? = some y)
    (hQ : ∀ h' f1 fl1, Owned f1 → IsZipB h' z TI TO f1 fl1 → (∃ a b, IsPair h' TO a b) → h'.IsListIter i1 l1 (k1 + 1) → h'.IsListIter i2 l2 (k2 + 1) → IsPair h' s.heap.objs.size x y → h'.objs.size = s.heap.objs.size + 1 →
      (∀ c o, c ≠ z → c ≠ TO → c ≠ i1 → c ≠ i2 → s.heap.get? c = some o → h'.get? c = some o) → Q (.ref s.heap.objs.size) { s with heap := h' }) :
    wpAny (model prog w) A (Builtin.«zip.__next__» ⟨[.ref z], []⟩) (fun fin s' => ∃ v, fin = .done (.ret v) ∧ Q v s') E s := by
  show wpAny _ _ (field (.ref z) 2 >>= _) _ _ _
  refine wpAny_bind (wpAny_field hz rfl (x := .bool false) rfl ?_)
  show wpAny _ _ (field (.ref z) 3 >>= _) _ _ _
  refine wpAny_bind (wpAny_field hz rfl (x := .ref TI) rfl ?_)
  refine wpAny_bind (wpAny_seqItems hTI rfl ?_)
  show wpAny _ _ (Builtin.SmallTypes.ownedTupleIsFree (.ref z) >>= _) _ _ _
  refine wpAny_bind (owned_free hz ho ?_ fun h₁ hz₁ hs₁ => ?_)
  · -- a tuple of its own again
    simp only [if_true]
    refine wpAny_bind (wpAny_rule ?_)
    refine wpAny_bind (wpAny_field hz rfl (x := .ref TO) rfl ?_)
    refine wpAny_bind (wpAny_setField_rec hz (by simp) fun h₁ hz₁ hs₁ => ?_)
    replace hz₁ : IsZipB h₁ z TI TO .ellipsis fl := hz₁
    refine wpAny_bind ?_
    simp only [List.zipIdx_cons, List.zipIdx_nil, List.forIn_cons, List.forIn_nil]
    refine wpAny_bind (wpAny_bind (wpAny_onRaise ?_))
    show wpAny _ _ (Builtin.SmallTypes.nextOf (.ref i1) >>= _) _ _ _
    refine wpAny_bind (wpAny_nextOf_list_item (h1.extBut hs₁.extBut D.i1z) (hl1.extBut hs₁.extBut D.l1z) hx fun h₂ h1₂ hs₂ => wpAny_pure ?_)
    have hTO₂ : IsPair h₂ TO a b := hs₂.extBut _ _ D.TOi1 (hs₁.extBut _ _ D.TOz hTO)
    refine wpAny_bind (wpAny_seqItems hTO₂ rfl ?_)
    refine wpAny_bind (wpAny_updateSeq_pair hTO₂ fun h₃ hTO₃ hs₃ => ?_)
    replace hTO₃ : IsPair h₃ TO x b := hTO₃
    refine wpAny_bind (wpAny_letGo (wpAny_pure ?_))
    refine wpAny_bind (wpAny_bind (wpAny_onRaise ?_))
    show wpAny _ _ (Builtin.SmallTypes.nextOf (.ref i2) >>= _) _ _ _
    refine wpAny_bind (wpAny_nextOf_list_item (((h2.extBut hs₁.extBut D.i2z).extBut hs₂.extBut D.i12.symm).extBut hs₃.extBut D.TOi2.symm)
      (((hl2.extBut hs₁.extBut D.l2z).extBut hs₂.extBut D.l2i1).extBut hs₃.extBut D.l2TO) hy fun h₄ h2₄ hs₄ => wpAny_pure ?_)
    have hTO₄ : IsPair h₄ TO x b := hs₄.extBut _ _ D.TOi2 hTO₃
    refine wpAny_bind (wpAny_seqItems hTO₄ rfl ?_)
    refine wpAny_bind (wpAny_updateSeq_pair hTO₄ fun h₅ hTO₅ hs₅ => ?_)
    replace hTO₅ : IsPair h₅ TO x y := hTO₅
    refine wpAny_bind (wpAny_letGo (wpAny_pure (wpAny_pure ?_)))
    refine wpAny_bind (wpAny_seqItems hTO₅ rfl ?_)
    refine wpAny_bind (wpAny_newTuple ?_)
    have hsz : h₅.objs.size = s.heap.objs.size := by rw [hs₅.1, hs₄.1, hs₃.1, hs₂.1, hs₁.1]
    have hz₅ : IsZipB h₅ z TI TO .ellipsis fl := hs₅.extBut _ _ D.TOz.symm (hs₄.extBut _ _ D.i2z.symm (hs₃.extBut _ _ D.TOz.symm (hs₂.extBut _ _ D.i1z.symm hz₁)))
    have hk₅ : ∀ c o, c ≠ z → c ≠ TO → c ≠ i1 → c ≠ i2 → s.heap.get? c = some o → h₅.get? c = some o := fun c o c1 c2 c3 c4 e =>
      hs₅.extBut _ _ c2 (hs₄.extBut _ _ c4 (hs₃.extBut _ _ c2 (hs₂.extBut _ _ c3 (hs₁.extBut _ _ c1 e))))
    have h1₅ : h₅.IsListIter i1 l1 (k1 + 1) := ((h1₂.extBut hs₃.extBut D.TOi1.symm).extBut hs₄.extBut D.i12).extBut hs₅.extBut D.TOi1.symm
    have h2₅ : h₅.IsListIter i2 l2 (k2 + 1) := h2₄.extBut hs₅.extBut D.TOi2.symm
    have hzlt : z < h₅.objs.size := Heap.lt_size hz₅
    show wpAny _ _ (Builtin.SmallTypes.ownedTupleHandOut (.ref z) (.ref h₅.objs.size) >>= _) _ _ _
    refine wpAny_bind ?_
    unfold Builtin.SmallTypes.ownedTupleHandOut
    have hz₆ : IsZipB (h₅.push { cls := .type "tuple", data := .seq #[x, y] }) z TI TO .ellipsis fl := Heap.get?_push_of_some _ hz₅
    refine wpAny_bind (wpAny_setField_rec hz₆ (by simp) fun h₇ hz₇ hs₇ => ?_)
    replace hz₇ : IsZipB h₇ z TI TO (rawInt h₅.objs.size) fl := hz₇
    refine wpAny_setField_rec hz₇ (by simp) fun h₈ hz₈ hs₈ => ?_
    replace hz₈ : IsZipB h₈ z TI TO (rawInt h₅.objs.size) false := hz₈
    have up : ∀ c o, c ≠ z → h₅.get? c = some o → h₈.get? c = some o := fun c o c1 e => hs₈.extBut _ _ c1 (hs₇.extBut _ _ c1 (Heap.get?_push_of_some _ e))
    have hT₈ : IsPair h₈ h₅.objs.size x y := hs₈.extBut _ _ (Nat.ne_of_gt hzlt) (hs₇.extBut _ _ (Nat.ne_of_gt hzlt) (Heap.get?_push_size _ rfl))
    have hz8 : h₈.objs.size = h₅.objs.size + 1 := by rw [hs₈.1, hs₇.1, Heap.size_push]
    rw [hsz] at hz₈ hT₈ hz8
    refine wpAny_pure ⟨_, rfl, ?_⟩
    show Q (.ref h₅.objs.size) _
    rw [hsz]
    exact hQ h₈ _ false (.inr ⟨_, rfl⟩) hz₈ ⟨_, _, up _ _ D.TOz hTO₅⟩ (h1₅.at fun o e => up _ o D.i1z e) (h2₅.at fun o e => up _ o D.i2z e) hT₈ hz8 fun c o c1 c2 c3 c4 e => up c o c1 (hk₅ c o c1 c2 c3 c4 e)
  · -- the one that was handed out lives on
    simp only [Bool.false_eq_true, if_false]
    rw [← Array.forIn_toList]
    simp only [List.forIn_cons, List.forIn_nil]
    have nz : ∀ c o, c ≠ z → s.heap.get? c = some o → h₁.get? c = some o := fun c o c1 e => hs₁.extBut _ _ c1 e
    refine wpAny_bind (wpAny_bind (wpAny_bind (wpAny_holding ?_)))
    show wpAny _ _ (Builtin.SmallTypes.nextOf (.ref i1) >>= _) _ _ _
    refine wpAny_bind (wpAny_nextOf_list_item (h1.extBut hs₁.extBut D.i1z) (hl1.extBut hs₁.extBut D.l1z) hx fun h₂ h1₂ hs₂ => wpAny_pure ?_)
    refine wpAny_pure ?_
    refine wpAny_bind (wpAny_bind (wpAny_holding ?_))
    show wpAny _ _ (Builtin.SmallTypes.nextOf (.ref i2) >>= _) _ _ _
    refine wpAny_bind (wpAny_nextOf_list_item ((h2.extBut hs₁.extBut D.i2z).extBut hs₂.extBut D.i12.symm)
      ((hl2.extBut hs₁.extBut D.l2z).extBut hs₂.extBut D.l2i1) hy fun h₃ h2₃ hs₃ => wpAny_pure ?_)
    refine wpAny_pure ?_
    refine wpAny_pure ?_
    refine wpAny_bind (wpAny_newTuple ?_ (show 2 ≤ sizeLine by decide))
    have hsz : h₃.objs.size = s.heap.objs.size := by rw [hs₃.1, hs₂.1, hs₁.1]
    have hz₃ : IsZipB h₃ z TI TO f0 true := hs₃.extBut _ _ D.i2z.symm (hs₂.extBut _ _ D.i1z.symm hz₁)
    have hTO₃ : IsPair h₃ TO a b := hs₃.extBut _ _ D.TOi2 (hs₂.extBut _ _ D.TOi1 (nz _ _ D.TOz hTO))
    have h1₃ : h₃.IsListIter i1 l1 (k1 + 1) := h1₂.extBut hs₃.extBut D.i12
    have up : ∀ c o, h₃.get? c = some o → (h₃.push { cls := .type "tuple", data := .seq #[x, y] }).get? c = some o := fun c o e => Heap.get?_push_of_some _ e
    refine wpAny_pure ⟨_, rfl, ?_⟩
    show Q (.ref h₃.objs.size) _
    rw [hsz]
    refine hQ _ f0 true ho (up _ _ hz₃) ⟨_, _, up _ _ hTO₃⟩ (h1₃.at fun o e => up _ o e) (h2₃.at fun o e => up _ o e) ?_ ?_ fun c o c1 c2 c3 c4 e => up c o (hs₃.extBut _ _ c4 (hs₂.extBut _ _ c3 (nz _ _ c1 e)))
    · rw [← hsz]
      exact Heap.get?_push_size _ rfl
    · rw [← hsz]
      exact Heap.size_push ..
theorem zip_endB {z TI TO i1 i2 l1 l2 : Addr} {k1 k2 : Nat} {xs ys : Array Value} {a b f0 : Value} {fl : Bool} {Q : PySem.Fin → Shared → Prop} (hh : A.handled = none) (D : ZipApart z TI TO i1 i2 l1 l2)
    (hz : IsZipB s.heap z TI TO f0 fl) (ho : Owned f0) (hTI : IsPair s.heap TI (.ref i1) (.ref i2)) (hTO : IsPair s.heap TO a b)
    (h1 : s.heap.IsListIter i1 l1 k1) (h2 : s.heap.IsListIter i2 l2 k2) (hl1 : s.heap.IsList l1 xs) (hl2 : s.heap.IsList l2 ys) (hend : xs[k1]? = none ∨ ys[k2]? = none)
    (hE : ∀ h' e, (∀ c o, c ≠ z → c ≠ TO → c ≠ i1 → c ≠ i2 → s.heap.get? c = some o → h'.get? c = some o) → (∃ o, h'.get? e = some o ∧ o.cls = .type "StopIteration") → E (.ref e) { s with heap := h' }) :
    wpAny (model prog w) A (Builtin.«zip.__next__» ⟨[.ref z], []⟩) Q E s := by
  show wpAny _ _ (field (.ref z) 2 >>= _) _ _ _
  refine wpAny_bind (wpAny_field hz rfl (x := .bool false) rfl ?_)
  show wpAny _ _ (field (.ref z) 3 >>= _) _ _ _
  refine wpAny_bind (wpAny_field hz rfl (x := .ref TI) rfl ?_)
  refine wpAny_bind (wpAny_seqItems hTI rfl ?_)
  show wpAny _ _ (Builtin.SmallTypes.ownedTupleIsFree (.ref z) >>= _) _ _ _
  refine wpAny_bind (owned_free hz ho ?_ fun h₁ hz₁ hs₁ => ?_)
  · simp only [if_true]
    refine wpAny_bind (wpAny_rule ?_)
    refine wpAny_bind (wpAny_field hz rfl (x := .ref TO) rfl ?_)
    refine wpAny_bind (wpAny_setField_rec hz (by simp) fun h₁ hz₁ hs₁ => ?_)
    replace hz₁ : IsZipB h₁ z TI TO .ellipsis fl := hz₁
    refine wpAny_bind ?_
    simp only [List.zipIdx_cons, List.zipIdx_nil, List.forIn_cons, List.forIn_nil]
    refine wpAny_bind (wpAny_bind (wpAny_onRaise ?_))
    show wpAny _ _ (Builtin.SmallTypes.nextOf (.ref i1) >>= _) _ _ _
    cases hx : xs[k1]? with
    | none =>
      refine wpAny_bind (wpAny_nextOf_list_end hh (h1.extBut hs₁.extBut D.i1z) (hl1.extBut hs₁.extBut D.l1z) hx fun h₂ e hs₂ he => ?_)
      obtain ⟨oe, hoe, hce⟩ := he
      have hz₂ : IsZipB h₂ z TI TO .ellipsis fl := hs₂ _ _ D.i1z.symm hz₁
      have hez : e ≠ z := fun x => by subst x; rw [hz₂] at hoe; cases hoe; simp at hce
      refine wpAny_setField_rec hz₂ (by simp) fun h₃ _ hs₃ => hE h₃ e (fun c o c1 _ c3 _ x => hs₃.extBut _ _ c1 (hs₂ _ _ c3 (hs₁.extBut _ _ c1 x))) ⟨oe, hs₃.extBut _ _ hez hoe, hce⟩
    | some x =>
      have hy : ys[k2]? = none := by rcases hend with h | h; rw [hx] at h; cases h; exact h
      refine wpAny_bind (wpAny_nextOf_list_item (h1.extBut hs₁.extBut D.i1z) (hl1.extBut hs₁.extBut D.l1z) hx fun h₂ h1₂ hs₂ => wpAny_pure ?_)
      have hTO₂ : IsPair h₂ TO a b := hs₂.extBut _ _ D.TOi1 (hs₁.extBut _ _ D.TOz hTO)
      refine wpAny_bind (wpAny_seqItems hTO₂ rfl ?_)
      refine wpAny_bind (wpAny_updateSeq_pair hTO₂ fun h₃ hTO₃ hs₃ => ?_)
      refine wpAny_bind (wpAny_letGo (wpAny_pure ?_))
      refine wpAny_bind (wpAny_bind (wpAny_onRaise ?_))
      show wpAny _ _ (Builtin.SmallTypes.nextOf (.ref i2) >>= _) _ _ _
      refine wpAny_bind (wpAny_nextOf_list_end hh (((h2.extBut hs₁.extBut D.i2z).extBut hs₂.extBut D.i12.symm).extBut hs₃.extBut D.TOi2.symm)
        (((hl2.extBut hs₁.extBut D.l2z).extBut hs₂.extBut D.l2i1).extBut hs₃.extBut D.l2TO) hy fun h₄ e hs₄ he => ?_)
      obtain ⟨oe, hoe, hce⟩ := he
      have hz₄ : IsZipB h₄ z TI TO .ellipsis fl := hs₄ _ _ D.i2z.symm (hs₃.extBut _ _ D.TOz.symm (hs₂.extBut _ _ D.i1z.symm hz₁))
      have hez : e ≠ z := fun x => by subst x; rw [hz₄] at hoe; cases hoe; simp at hce
      refine wpAny_setField_rec hz₄ (by simp) fun h₅ _ hs₅ => hE h₅ e (fun c o c1 c2 c3 c4 x => hs₅.extBut _ _ c1 (hs₄ _ _ c4 (hs₃.extBut _ _ c2 (hs₂.extBut _ _ c3 (hs₁.extBut _ _ c1 x))))) ⟨oe, hs₅.extBut _ _ hez hoe, hce⟩
  · simp only [Bool.false_eq_true, if_false]
    rw [← Array.forIn_toList]
    simp only [List.forIn_cons, List.forIn_nil]
    refine wpAny_bind (wpAny_bind (wpAny_bind (wpAny_holding ?_)))
    show wpAny _ _ (Builtin.SmallTypes.nextOf (.ref i1) >>= _) _ _ _
    cases hx : xs[k1]? with
    | none =>
      refine wpAny_bind (wpAny_nextOf_list_end hh (h1.extBut hs₁.extBut D.i1z) (hl1.extBut hs₁.extBut D.l1z) hx fun h₂ e hs₂ he => ?_)
      exact hE h₂ e (fun c o c1 _ c3 _ x => hs₂ _ _ c3 (hs₁.extBut _ _ c1 x)) he
    | some x =>
      have hy : ys[k2]? = none := by rcases hend with h | h; rw [hx] at h; cases h; exact h
      refine wpAny_bind (wpAny_nextOf_list_item (h1.extBut hs₁.extBut D.i1z) (hl1.extBut hs₁.extBut D.l1z) hx fun h₂ h1₂ hs₂ => wpAny_pure ?_)
      refine wpAny_pure ?_
      refine wpAny_bind (wpAny_bind (wpAny_holding ?_))
      show wpAny _ _ (Builtin.SmallTypes.nextOf (.ref i2) >>= _) _ _ _
      refine wpAny_bind (wpAny_nextOf_list_end hh ((h2.extBut hs₁.extBut D.i2z).extBut hs₂.extBut D.i12.symm)
        ((hl2.extBut hs₁.extBut D.l2z).extBut hs₂.extBut D.l2i1) hy fun h₄ e hs₄ he => ?_)
      exact hE h₄ e (fun c o c1 c2 c3 c4 x => hs₄ _ _ c4 (hs₂.extBut _ _ c3 (hs₁.extBut _ _ c1 x))) he
theorem next_zip_itemB {z TI TO i1 i2 l1 l2 : Addr} {k1 k2 : Nat} {xs ys : Array Value} {x y a b f0 : Value} {fl : Bool} {Q : Option Value → Shared → Prop} (D : ZipApart z TI TO i1 i2 l1 l2)
    (hz : IsZipB s.heap z TI TO f0 fl) (ho : Owned f0) (hTI : IsPair s.heap TI (.ref i1) (.ref i2)) (hTO : IsPair s.heap TO a b)
    (h1 : s.heap.IsListIter i1 l1 k1) (h2 : s.heap.IsListIter i2 l2 k2) (hl1 : s.heap.IsList l1 xs) (hl2 : s.heap.IsList l2 ys) (hx : xs[k1]? = some x) (hy : ys[k2]? = some y)
    (hQ : ∀ h' f1 fl1, Owned f1 → IsZipB h' z TI TO f1 fl1 → (∃ a b, IsPair h' TO a b) → h'.IsListIter i1 l1 (k1 + 1) → h'.IsListIter i2 l2 (k2 + 1) → IsPair h' s.heap.objs.size x y → h'.objs.size = s.heap.objs.size + 1 →
      (∀ c o, c ≠ z → c ≠ TO → c ≠ i1 → c ≠ i2 → s.heap.get? c = some o → h'.get? c = some o) → Q (some (.ref s.heap.objs.size)) { s with heap := h' }) :
    wpAny (model prog w) A (pyNext (.ref z)) Q E s := by
  have hT : s.TypeIs (.ref z) "zip" := ⟨_, hz, rfl⟩
  unfold pyNext
  exact wpAny_bind (wpAny_attempt (wpAny_callSpecial?_slot (name := Str.ofString "__next__") hT PySem.F.slot_zip_next
    (wpAny_call_entry PySem.F.slot_zip_next hT PySem.F.entry_zip_next
      (zip_itemB D hz ho hTI hTO h1 h2 hl1 hl2 hx hy fun h' f1 fl1 a0 a1 a2 a3 a4 a5 a6 a7 => wpAny_pure (hQ h' f1 fl1 a0 a1 a2 a3 a4 a5 a6 a7)) (PySem.F.args_zip_next_1 _))))
theorem next_zip_endB {z TI TO i1 i2 l1 l2 : Addr} {k1 k2 : Nat} {xs ys : Array Value} {a b f0 : Value} {fl : Bool} {Q : Option Value → Shared → Prop} (hh : A.handled = none) (D : ZipApart z TI TO i1 i2 l1 l2)
    (hz : IsZipB s.heap z TI TO f0 fl) (ho : Owned f0) (hTI : IsPair s.heap TI (.ref i1) (.ref i2)) (hTO : IsPair s.heap TO a b)
    (h1 : s.heap.IsListIter i1 l1 k1) (h2 : s.heap.IsListIter i2 l2 k2) (hl1 : s.heap.IsList l1 xs) (hl2 : s.heap.IsList l2 ys) (hend : xs[k1]? = none ∨ ys[k2]? = none)
    (hQ : ∀ h', (∀ c o, c ≠ z → c ≠ TO → c ≠ i1 → c ≠ i2 → s.heap.get? c = some o → h'.get? c = some o) → Q none { s with heap := h' }) : wpAny (model prog w) A (pyNext (.ref z)) Q E s := by
  have hT : s.TypeIs (.ref z) "zip" := ⟨_, hz, rfl⟩
  unfold pyNext
  refine wpAny_bind (wpAny_attempt (wpAny_callSpecial?_slot (name := Str.ofString "__next__") hT PySem.F.slot_zip_next
    (wpAny_call_entry PySem.F.slot_zip_next hT PySem.F.entry_zip_next (zip_endB (by exact hh) D hz ho hTI hTO h1 h2 hl1 hl2 hend fun h' e hk he => ?_) (PySem.F.args_zip_next_1 _))))
  obtain ⟨o, ho, hc⟩ := he
  refine wpAny_bind (wpAny_isInstance (T := "StopIteration") (b := true) ⟨o, ho, hc⟩ isSubtype_stop ?_)
  exact wpAny_pure (hQ _ hk)
end
end Fx
/-! zip of two lists, the target one name. -/
namespace Fx
open PySem PySem.Spec PyProof.Rows L2
theorem iter_zipB {prog : Program} {w : World} {A : Around} {E : Value → Shared → Prop} {s : Shared} {z TI TO : Addr} {f0 : Value} {fl : Bool} {Q : Value → Shared → Prop} (hz : IsZipB s.heap z TI TO f0 fl) (h : Q (.ref z) s) : wpAny (model prog w) A (pyIter (.ref z)) Q E s := by
  have hT : s.TypeIs (.ref z) "zip" := ⟨_, hz, rfl⟩
  refine wpAny_pyIter_slot hT PySem.F.slot_zip_iter (wpAny_call_entry PySem.F.slot_zip_iter hT PySem.F.entry_zip_iter ?_ (PySem.F.args_zip_iter_1 _))
  show wpAny _ _ (ret (.ref z)) _ _ s
  exact wpAny_pure ⟨_, rfl, "zip", _, hT, PySem.F.slot_zip_next.lookup, h⟩
theorem turn_zipN {P : Program} {w : World} {K : Frg} {x : Str} {tpos : Pos} {a b z TI TO i1 i2 : Addr} (D : ZipApart z TI TO i1 i2 a b) :
    Turn P w K (.Name x tpos) (Itz K a b) [z, TI, TO, i1, i2] z (fun i h => (∃ f0 fl, Owned f0 ∧ IsZipB h z TI TO f0 fl) ∧ IsPair h TI (.ref i1) (.ref i2) ∧ (∃ x y, IsPair h TO x y) ∧ h.IsListIter i1 a i ∧ h.IsListIter i2 b i) where
  mem := by simp
  obj := fun i h st c hc => by
    obtain ⟨⟨f0, fl, _, hz⟩, hTI, ⟨x, y, hTO⟩, ⟨o1, e1, _, d1⟩, ⟨o2, e2, _, d2⟩⟩ := st
    have e' : c = z ∨ c = TI ∨ c = TO ∨ c = i1 ∨ c = i2 := by simpa using hc
    rcases e' with q | q | q | q | q
    · rw [q]; exact ⟨_, hz, fun v q => nomatch q⟩
    · rw [q]; exact ⟨_, hTI, fun v q => nomatch q⟩
    · rw [q]; exact ⟨_, hTO, fun v q => nomatch q⟩
    · rw [q]; exact ⟨o1, e1, fun v q => by rw [d1] at q; cases q⟩
    · rw [q]; exact ⟨o2, e2, fun v q => by rw [d2] at q; cases q⟩
  keep := fun i h h' st k => by
    obtain ⟨⟨f0, fl, ho, hz⟩, hTI, ⟨x, y, hTO⟩, h1, h2⟩ := st
    exact ⟨⟨f0, fl, ho, k z (by simp) _ hz⟩, k TI (by simp) _ hTI, ⟨x, y, k TO (by simp) _ hTO⟩, h1.at fun o q => k i1 (by simp) o q, h2.at fun o q => k i2 (by simp) o q⟩
  item := by
    intro X hP hw hK hc i pins s σ H E I hf st hg
    subst hP hw hK
    obtain ⟨⟨f0, fl, ho, hz⟩, hTI, ⟨x0, y0, hTO⟩, h1, h2⟩ := st
    obtain ⟨xs, ys, x, y, hqx, hqy, hx, hy⟩ := hg
    obtain ⟨its, rv, p, _⟩ := I.list hqx
    obtain ⟨its2, rv2, p2, _⟩ := I.list hqy
    obtain ⟨u, hu, ru⟩ := rv.get hx
    obtain ⟨u2, hu2, ru2⟩ := rv2.get hy
    have hzl : z < s.heap.objs.size := Heap.lt_size hz
    refine next_zip_itemB D hz ho hTI hTO h1 h2 p.isList p2.isList (x := u) (y := u2) (by simpa using hu) (by simpa using hu2) fun h' f1 fl1 ho' z' TO' h1' h2' hT hsz hk => ?_
    refine ⟨_, rfl, wpAny_pure ?_⟩
    have hT2 : h'.get? s.heap.objs.size = some { cls := .type "tuple", data := .seq #[u, u2] } := hT
    have new : ObjOk X.prog X.w (upd H s.heap.objs.size (.tup [x, y])) h' s.heap.objs.size (.tup [x, y]) :=
      ⟨by show 2 ≤ sizeLine; decide, [u, u2], .cons ru (.cons ru2 .nil), ⟨_, hT2, rfl, _, rfl⟩⟩
    have I1 : Inv X pins σ (upd H s.heap.objs.size (.tup [x, y])) { s with heap := h' } :=
      I.turnedNew (t' := s.toks) (ch := [z, TI, TO, i1, i2]) (fun c o hb q => hk c o (fun q' => hb (by simp [q'])) (fun q' => hb (by simp [q'])) (fun q' => hb (by simp [q'])) (fun q' => hb (by simp [q'])) q) hf (Nat.le_refl _) new
    refine ⟨.ref s.heap.objs.size, _, I1, rfl, ⟨_, x, y, rfl, I.hok.fresh (Nat.le_refl _), rfl, fun l hl => by rw [I.list_inj hl hqx]; exact hx, fun l hl => by rw [I.list_inj hl hqy]; exact hy⟩, ⟨⟨f1, fl1, ho', z'⟩, ?_, TO', h1', h2'⟩, fun c hcm => ?_⟩
    · exact hk _ _ D.TIz D.TITO D.TIi1 D.TIi2 hTI
    · have hlt : c < s.heap.objs.size := by
        have e' : c = z ∨ c = TI ∨ c = TO ∨ c = i1 ∨ c = i2 := by simpa using hcm
        rcases e' with q | q | q | q | q
        · rw [q]; exact hzl
        · rw [q]; exact Heap.lt_size hTI
        · rw [q]; exact Heap.lt_size hTO
        · rw [q]; obtain ⟨_, e1, _⟩ := h1; exact Heap.lt_size e1
        · rw [q]; obtain ⟨_, e1, _⟩ := h2; exact Heap.lt_size e1
      rw [upd_ne (Nat.ne_of_lt hlt)]
      exact (hf c hcm).1
  done := by
    intro X hP hw hK hc i pins s σ H E I hf st hg
    subst hP hw hK
    obtain ⟨⟨f0, fl, ho, hz⟩, hTI, ⟨x0, y0, hTO⟩, h1, h2⟩ := st
    obtain ⟨xs, ys, hqx, hqy, hend⟩ := hg
    obtain ⟨its, rv, p, _⟩ := I.list hqx
    obtain ⟨its2, rv2, p2, _⟩ := I.list hqy
    have l1 := rv.length
    have l2 := rv2.length
    have he : its.toArray[i]? = none ∨ its2.toArray[i]? = none := by
      rcases hend with q | q
      · exact .inl (by simp; omega)
      · exact .inr (by simp; omega)
    exact next_zip_endB (I.ok.hd hc) D hz ho hTI hTO h1 h2 p.isList p2.isList he fun h' hk => ⟨rfl, I.turnedL (t' := s.toks) (ch := [z, TI, TO, i1, i2]) (fun c o hb q =>
      hk c o (fun q' => hb (by simp [q'])) (fun q' => hb (by simp [q'])) (fun q' => hb (by simp [q'])) (fun q' => hb (by simp [q'])) q) hf⟩
  self := fun A i s Q E st h => by
    obtain ⟨⟨f0, fl, _, hz⟩, _⟩ := st
    exact iter_zipB hz h
theorem pi_zipN {X : Cx} {e e2 : Expr} {ta : TA} {p pos tpos : Pos} {x : Str} (hg : Gl X "zip") (hm : X.mg "zip" = none) (ha : PA X [e, e2] ta)
    (hs : starEach [e, e2] X.env = (false, eval e X.env) :: starEach [e2] X.env := by rfl) (hpl : (backTo pos (starEach [e2] X.env)).any (·.1) = false := by rfl) :
    PI X (.Name x tpos) (.Call (.Name "zip" p) [e, e2] [] pos) (iZip X.K ta) := by
  refine ⟨fun pins s σ H R I h => ?_⟩
  refine Call_ (ld_blt I hg hm PyProof.Rows.boot_zip (PyProof.Rows.callWith_type1 (thn (ha.run pos pins s σ H _ I h) fun us s1 ⟨vs, H1, I1, r1, q1⟩ => ?_) hs hpl))
  obtain ⟨a, b, xs, ys, ex, hqx, hqy, q⟩ := q1
  subst ex
  cases r1 with
  | cons r rr =>
    cases rr with
    | cons r' rr =>
      cases rr
      cases r
      cases r'
      obtain ⟨its, rv, p1, _⟩ := I1.list hqx
      obtain ⟨its2, rv2, p2, _⟩ := I1.list hqy
      have la : a < s1.heap.objs.size := p1.lt
      have lb : b < s1.heap.objs.size := p2.lt
      refine call_zip_2 p1.isList p2.isList fun h' hz hTI hTO h1 h2 hsz hk => wpAny_pyIter_zip hz ?_
      have I2 : Inv X pins σ H1 { s1 with heap := h' } := I1.kept (t' := s1.toks) hk
      refine ⟨s1.heap.objs.size + 4, [s1.heap.objs.size + 4, s1.heap.objs.size + 2, s1.heap.objs.size + 3, s1.heap.objs.size, s1.heap.objs.size + 1], _, _, H1, rfl, I2, turn_zipN (PySem.W.ktu_apart s1.heap.objs.size a b la lb), ⟨⟨.none, false, .inl rfl, hz⟩, hTI, ⟨_, _, hTO⟩, h1, h2⟩, fun c hcm => ?_, q⟩
      have e' : c = s1.heap.objs.size + 4 ∨ c = s1.heap.objs.size + 2 ∨ c = s1.heap.objs.size + 3 ∨ c = s1.heap.objs.size ∨ c = s1.heap.objs.size + 1 := by simpa using hcm
      have hle : s1.heap.objs.size ≤ c := by
        rcases e' with z | z | z | z | z
        · rw [z]; exact Nat.le_add_right _ _
        · rw [z]; exact Nat.le_add_right _ _
        · rw [z]; exact Nat.le_add_right _ _
        · rw [z]; exact Nat.le_refl _
        · rw [z]; exact Nat.le_add_right _ _
      exact I1.fpOk hle (I1.hok.fresh hle)
section
variable {X : Cx} {e e2 : Expr} {ms : MA} {p pos tpos : Pos} {x : Str}
/-- two lists that stay -/
def mZipN (ms : MA) : MA := fun env S => bnd (ms env S) fun ds S1 => match ds with
  | [a, b] => (froOf a).bind fun l => (froOf b).map fun k => (List.zipWith (fun x y => .tup [x, y]) l k, S1)
  | _ => none
theorem ii_zipN (hg : Gl X "zip") (hm : X.mg "zip" = none) (ha : AI X [e, e2] ms)
    (hs : starEach [e, e2] X.env = (false, eval e X.env) :: starEach [e2] X.env := by rfl) (hpl : (backTo pos (starEach [e2] X.env)).any (·.1) = false := by rfl) :
    II X (.Name x tpos) (.Call (.Name "zip" p) [e, e2] [] pos) (mZipN ms) := by
  obtain ⟨t, p, i⟩ := ha
  refine ⟨_, pi_zipN hg hm p hs hpl, fun F φ S H σ env ds S' R E h0 Q a => ?_⟩
  obtain ⟨d, S1, h1, h⟩ := bnd_some h0
  clear h0
  split at h
  · rename_i d1 d2
    cases e0 : froOf d1 with
    | none => rw [e0] at h; cases h
    | some l =>
      rw [e0] at h
      simp only [Option.bind_some] at h
      cases e1 : froOf d2 with
      | none => rw [e1] at h; cases h
      | some k =>
        rw [e1] at h
        cases h
        refine i F φ S H σ env _ S' R E h1 _ fun φ1 H1 vs x1 R1 r1 => ?_
        obtain ⟨v, ws, g1, g2, g3⟩ := r1.inv
        obtain ⟨v', ws', k1, k2, k3⟩ := g3.inv
        obtain ⟨b, xs, q1, q2, q3, q4⟩ := fro_of e0 g2
        obtain ⟨b', xs', q1', q2', q3', q4'⟩ := fro_of e1 k2
        exact ⟨b, b', xs, xs', by rw [g1, k1, k3.inv0, q1, q1'], q3, q3', a φ1 H1 _ x1 R1 (walk_z q4 q2 q4' q2')⟩
  · cases h
end
end Fx
/-! Equations for simp, of what Fw11.. added; lists as by-value functions. -/
namespace Fx
open PySem PySem.Spec PyProof.Rows L2
section
variable (env : VEnv) (S : Store) (e e2 : ME) (ms : MA) (mag : MAG) (g : MG) (t : MT) (b : MS) (i j : Int) (x : Str) (l m : List Val) (d : Val)
@[simp] theorem s_enumA : mEnumA ms env S = bnd (ms env S) fun ds S1 => match ds with
  | [.tup l] => some (l.mapIdx fun i x => .tup [.int (i : Nat), x], S1)
  | [d] => (froOf d).map fun l => (l.mapIdx fun i x => .tup [.int (i : Nat), x], S1)
  | _ => none := nr rfl
@[simp] theorem s_zip : mZip ms env S = bnd (ms env S) fun ds S1 => match ds with
  | [.tup l, .tup k] => some (List.zipWith (fun x y => .tup [x, y]) l k, S1)
  | [a, b] => (froOf a).bind fun l => (froOf b).map fun k => (List.zipWith (fun x y => .tup [x, y]) l k, S1)
  | _ => none := nr rfl
@[simp] theorem s_zipN : mZipN ms env S = bnd (ms env S) fun ds S1 => match ds with
  | [a, b] => (froOf a).bind fun l => (froOf b).map fun k => (List.zipWith (fun x y => .tup [x, y]) l k, S1)
  | _ => none := nr rfl
@[simp] theorem s_itemsG : mItemsG e env S = bnd (e env S) fun d S1 => match d with
  | .tup l => some ((l, []), S1)
  | .str z => some ((signs z, []), S1)
  | d => (lstG S1 d).map fun q => (q, S1) := nr rfl
@[simp] theorem s_zipG : mZipG ms env S = bnd (ms env S) fun ds S1 => match ds with
  | [.tup l, .tup k] => some ((List.zipWith (fun x y => .tup [x, y]) l k, []), S1)
  | [a, b] => (lstG S1 a).bind fun l => (lstG S1 b).map fun k => ((List.zipWith (fun x y => .tup [x, y]) l.1 k.1, l.2 ++ k.2), S1)
  | _ => none := nr rfl
@[simp] theorem lstG_fro : lstG S (.fro l) = some (l, []) := nr rfl
@[simp] theorem lstG_scr : lstG S (.scr l) = some (l, []) := nr rfl
theorem lstG_ref {r : Nat} (h : S[r]? = some (.lst l)) : lstG S (.ref r) = some (l, [(r, l)]) := by
  unfold lstG
  dsimp only
  rw [h]
open Classical in
@[simp] theorem s_lcG (k : Bool) (vs : List Nat) (m : ME) : mLcG k vs mag g t m env S = bnd (mag env S) fun p S1 => bnd (lcL (gdG p.2 g) t m (wipeE env vs) p.1 S1) fun ds S2 => if ds.length ≤ sizeLine ∧ OkG p.2 S2 then some (mk k ds S2) else none := nr rfl
theorem v_divW (h : 0 < j) (h2 : j.natAbs.log2 < 9000) : vDivW (.int i) (.int j) S = some (.int (i.fdiv j), S) := by
  unfold vDivW
  rw [v_div]
  by_cases q : CDivN i j
  · rw [if_pos q]
    rfl
  · rw [if_neg q]
    show (((if CDivW i j then some (Val.int (i / j)) else none).map fun d => (d, S))) = _
    rw [if_pos (show CDivW i j from ⟨h, h2⟩), Int.fdiv_eq_ediv_of_nonneg i (by omega)]
    rfl
@[simp] theorem v_max2 : vMax [.int i, .int j] S = some (.int (if j > i then j else i), S) := nr rfl
@[simp] theorem v_min2 : vMin [.int i, .int j] S = some (.int (if j < i then j else i), S) := nr rfl
@[simp] theorem v_maxT : vMax [.tup l] S = (intsOf l).bind fun ns => (maxI ns).map fun m => (.int m, S) := nr rfl
@[simp] theorem v_minT : vMin [.tup l] S = (intsOf l).bind fun ns => (minI ns).map fun m => (.int m, S) := nr rfl
@[simp] theorem v_maxF : vMax [.fro l] S = (intsOf l).bind fun ns => (maxI ns).map fun m => (.int m, S) := nr rfl
@[simp] theorem v_minF : vMin [.fro l] S = (intsOf l).bind fun ns => (minI ns).map fun m => (.int m, S) := nr rfl
@[simp] theorem isi_int : vIsi [.int i, .raw (.ty "int")] S = some (.bl true, S) := nr (by
  simp only [vIsi, tyN, Option.bind_some]
  rw [show kitB "int" "int" = some true by decide +kernel]
  rfl)
@[simp] theorem isi_intb : vIsi [.int i, .raw (.ty "bool")] S = some (.bl false, S) := nr (by
  simp only [vIsi, tyN, Option.bind_some]
  rw [show kitB "int" "bool" = some false by decide +kernel]
  rfl)
@[simp] theorem isi_tup : vIsi [.tup l, .raw (.ty "tuple")] S = some (.bl true, S) := nr (by
  simp only [vIsi, tyN, Option.bind_some]
  rw [show kitB "tuple" "tuple" = some true by decide +kernel]
  rfl)
@[simp] theorem v_allF : vAll [.fro l] S = (blsOf l).map fun bs => (.bl (bs.all (fun b => b)), S) := nr rfl
@[simp] theorem v_tupF : vTuple [.fro l] S = some (.tup l, S) := nr rfl
@[simp] theorem v_listF (c : Bool) : vList c [.fro l] S = some (mk c l S) := nr rfl
@[simp] theorem v_listT (c : Bool) : vList c [.tup l] S = some (mk c l S) := nr rfl
@[simp] theorem v_addT : vAdd (.tup l) (.tup m) S = if l.length + m.length ≤ sizeLine then some (.tup (l ++ m), S) else none := nr rfl
@[simp] theorem v_addF : vAdd (.fro l) (.fro m) S = if l.length + m.length ≤ sizeLine then some (.fro (l ++ m), S) else none := nr rfl
@[simp] theorem v_isN (k : Bool) : vIs k d .non S = some (.bl (if k then !isNon d else isNon d), S) := nr (by unfold vIs; cases d <;> rfl)
@[simp] theorem isNon_non : isNon .non = true := rfl
@[simp] theorem isNon_int : isNon (.int i) = false := rfl
@[simp] theorem isNon_tup : isNon (.tup l) = false := rfl
@[simp] theorem isNon_fro : isNon (.fro l) = false := rfl
end
/-! ### comprehensions whose parts leave the store -/
/-- each item's value by f, the store as it was -/
theorem lc_map {α : Type} {g : MG} {m : ME} {env : VEnv} {S : Store} (v : α → Val) (f : α → Val) : ∀ (xs : List α), (∀ x ∈ xs, ∃ env1, g (v x) env S = some (env1, S) ∧ m env1 S = some (f x, S)) → lcL g mYes m env (xs.map v) S = some (xs.map f, S)
  | [], _ => rfl
  | x :: xs, h => by
    obtain ⟨env1, h1, h2⟩ := h x (by simp)
    have ih := lc_map v f xs fun y hy => h y (by simp [hy])
    rw [List.map_cons, lc_cons, h1, bnd_ok, s_yes, bnd_ok, if_pos rfl, h2, bnd_ok, ih, bnd_ok, List.map_cons]
/-- with a test -/
theorem lc_filter {α : Type} {g : MG} {t : MT} {m : ME} {env : VEnv} {S : Store} (v : α → Val) (f : α → Val) (q : α → Bool) : ∀ (xs : List α), (∀ x ∈ xs, ∃ env1, g (v x) env S = some (env1, S) ∧ t env1 S = some (q x, S) ∧ m env1 S = some (f x, S)) → lcL g t m env (xs.map v) S = some ((xs.filter q).map f, S)
  | [], _ => rfl
  | x :: xs, h => by
    obtain ⟨env1, h1, h2, h3⟩ := h x (by simp)
    have ih := lc_filter v f q xs fun y hy => h y (by simp [hy])
    rw [List.map_cons, lc_cons, h1, bnd_ok, h2, bnd_ok]
    cases e : q x with
    | true => rw [if_pos rfl, h3, bnd_ok, ih, bnd_ok, List.filter_cons_of_pos e, List.map_cons]
    | false => rw [if_neg (by decide), ih, List.filter_cons_of_neg (by simp [e])]
theorem rangeV_nat (n : Nat) : rangeV 0 n = (List.range n).map fun i => Val.int (i : Nat) := by
  unfold rangeV
  apply List.map_congr_left
  intro i _
  rw [Int.zero_add]
end Fx
namespace T17
open PySem PySem.Spec PyProof.Rows L2 Fx
def topS (i : Nat) : Stmt := PySem.Challenge.pw_heldalways_k17_whole_settings_mixed_of_o.main.body.getD i (.Pass ⟨0, 0, 0, 0⟩)
/-- what the top has written -/
structure Top (K : Frg) (mg : Str → Option Value) : Prop where
  z_abs : mg "abs" = none
  z_all : mg "all" = none
  z_bool : mg "bool" = none
  z_enumerate : mg "enumerate" = none
  z_int : mg "int" = none
  z_isinstance : mg "isinstance" = none
  z_len : mg "len" = none
  z_list : mg "list" = none
  z_max : mg "max" = none
  z_min : mg "min" = none
  z_range : mg "range" = none
  z_repr : mg "repr" = none
  z_sorted : mg "sorted" = none
  z_tuple : mg "tuple" = none
  z_zip : mg "zip" = none
  d_is_integer : Df K mg "is_integer" (topS 1)
  d_greater_entry : Df K mg "greater_entry" (topS 3)
  d_summed_entry : Df K mg "summed_entry" (topS 4)
  d_broken_pair : Df K mg "broken_pair" (topS 5)
  d_is_setting : Df K mg "is_setting" (topS 6)
  d_heaviest : Df K mg "heaviest" (topS 7)
  d_hull_rows : Df K mg "hull_rows" (topS 9)
  d_mixture : Df K mg "mixture" (topS 10)
  d_nearest_to : Df K mg "nearest_to" (topS 11)
  d_picks_of : Df K mg "picks_of" (topS 12)
  d__law_heap : Df K mg "_law_heap" (topS 14)
  d__law_draw : Df K mg "_law_draw" (topS 15)
  d__law_pick : Df K mg "_law_pick" (topS 16)
  d__law_hull : Df K mg "_law_hull" (topS 18)
  d__law_keeps : Df K mg "_law_keeps" (topS 19)
  d__law_mixture : Df K mg "_law_mixture" (topS 20)
  d__law_is_integer : Df K mg "_law_is_integer" (topS 21)
  d__law_are_picks : Df K mg "_law_are_picks" (topS 22)
  d__law_picks_right : Df K mg "_law_picks_right" (topS 23)
  d__law_level : Df K mg "_law_level" (topS 24)
  d__law_round : Df K mg "_law_round" (topS 25)
  d__law_all : Df K mg "_law_all" (topS 26)
  d__law_between_right : Df K mg "_law_between_right" (topS 27)
  d__law_setting : Df K mg "_law_setting" (topS 28)
  d__law_many_right : Df K mg "_law_many_right" (topS 29)
  d_law : Df K mg "law" (topS 30)
abbrev N_is_integer : List Str := ["value"]
theorem sc_is_integer : FnScope N_is_integer ["value"] (defScope (topS 1)) := ⟨rfl, rfl, rfl, by decide +kernel, rfl, by decide +kernel, by decide +kernel⟩
noncomputable def m_is_integer : MS := mRet (mAndV (mCall vIsi (mCons (mVar 0) (mCons (mC (.raw (.ty "int"))) (mNil)))) (mNotV (mCall vIsi (mCons (mVar 0) (mCons (mC (.raw (.ty "bool"))) (mNil))))))
noncomputable def M_is_integer : MCall := genM 0 8 N_is_integer m_is_integer
abbrev N_greater_entry : List Str := ["one", "other"]
theorem sc_greater_entry : FnScope N_greater_entry ["one", "other"] (defScope (topS 3)) := ⟨rfl, rfl, rfl, by decide +kernel, rfl, by decide +kernel, by decide +kernel⟩
noncomputable def m_greater_entry : MS := mThen (mWhen (mOr (mTest (mBin (vIs false) (mVar 0) (mC .non))) (mTest (mBin (vIs false) (mVar 1) (mC .non)))) (mRet (mIf (mTest (mBin (vIs false) (mVar 0) (mC .non))) (mVar 1) (mVar 0))) (mSkip))
 (mRet (mCall vMax (mCons (mVar 0) (mCons (mVar 1) (mNil)))))
noncomputable def M_greater_entry : MCall := genM 0 8 N_greater_entry m_greater_entry
abbrev N_summed_entry : List Str := ["one", "other"]
theorem sc_summed_entry : FnScope N_summed_entry ["one", "other"] (defScope (topS 4)) := ⟨rfl, rfl, rfl, by decide +kernel, rfl, by decide +kernel, by decide +kernel⟩
noncomputable def m_summed_entry : MS := mRet (mIf (mOr (mTest (mBin (vIs false) (mVar 0) (mC .non))) (mTest (mBin (vIs false) (mVar 1) (mC .non)))) (mC .non) (mBin vAdd (mVar 0) (mVar 1)))
noncomputable def M_summed_entry : MCall := genM 0 8 N_summed_entry m_summed_entry
abbrev N_broken_pair : List Str := ["rows", "setting", "one", "row", "other", "entry"]
theorem sc_broken_pair : FnScope N_broken_pair ["rows", "setting"] (defScope (topS 5)) := ⟨rfl, rfl, rfl, by decide +kernel, rfl, by decide +kernel, by decide +kernel⟩
noncomputable def m_broken_pair : MS := mThen (mFor (mEnumA (mCons (mVar 0) (mNil))) (gT 2 (gCons' (gN 2) (gCons' (gN 3) (gNil')))) (mFor (mEnumA (mCons (mVar 3) (mNil))) (gT 2 (gCons' (gN 4) (gCons' (gN 5) (gNil')))) (mWhen (mAnd (mTest (mBin (vIs true) (mVar 5) (mC .non))) (mTest (mBin vLt (mBin vSub (mBin vIx (mVar 1) (mVar 4)) (mBin vIx (mVar 1) (mVar 2))) (mVar 5)))) (mRet (mTup (mCons (mVar 2) (mCons (mVar 4) (mNil))))) (mSkip))))
 (mRet (mC .non))
noncomputable def M_broken_pair : MCall := genM 0 8 N_broken_pair m_broken_pair
abbrev N_is_setting : List Str := ["rows", "value", "item"]
theorem sc_is_setting : FnScope N_is_setting ["rows", "value"] (defScope (topS 6)) := ⟨rfl, rfl, rfl, by decide +kernel, rfl, by decide +kernel, by decide +kernel⟩
noncomputable def m_is_setting : MS := mThen (mWhen (mOr (mNot (mTru (mCall vIsi (mCons (mVar 1) (mCons (mC (.raw (.ty "tuple"))) (mNil)))))) (mOr (mTest (mBin vNe (mCall vLen (mCons (mVar 1) (mNil))) (mCall vLen (mCons (mVar 0) (mNil))))) (mNot (mTru (mCall vAll (mCons (mLc false [2] (mItems (mVar 1)) (gN 2) (mYes) (mCall M_is_integer (mCons (mVar 2) (mNil)))) (mNil))))))) (mRet (mC (.bl false))) (mSkip))
 (mRet (mBin (vIs false) (mCall M_broken_pair (mCons (mVar 0) (mCons (mVar 1) (mNil)))) (mC .non)))
noncomputable def M_is_setting : MCall := genM 0 8 N_is_setting m_is_setting
abbrev N_heaviest : List Str := ["rows", "found", "point", "middle", "one", "first", "further", "row", "entry", "more"]
theorem sc_heaviest : FnScope N_heaviest ["rows"] (defScope (topS 7)) := ⟨rfl, rfl, rfl, by decide +kernel, rfl, by decide +kernel, by decide +kernel⟩
noncomputable def m_heaviest : MS := mThen (mSet (mLc true [7] (mItems (mVar 0)) (gN 7) (mYes) (mCall (vList true) (mCons (mVar 7) (mNil)))) (gN 1))
 (mThen (mFor (mRng1 (mCons (mCall vLen (mCons (mVar 0) (mNil))) (mNil))) (gN 2) (mSet (mCall M_greater_entry (mCons (mBin vIx (mBin vIx (mVar 1) (mVar 2)) (mVar 2)) (mCons (mC (.int 0)) (mNil)))) (gIx (mBin vIx (mVar 1) (mVar 2)) (mVar 2))))
 (mThen (mFor (mRng1 (mCons (mCall vLen (mCons (mVar 0) (mNil))) (mNil))) (gN 3) (mThen (mWhen (mTest (mBin vGt (mBin vIx (mBin vIx (mVar 1) (mVar 3)) (mVar 3)) (mC (.int 0)))) (mRet (mC .non)) (mSkip))
 (mFor (mRng1 (mCons (mCall vLen (mCons (mVar 0) (mNil))) (mNil))) (gN 4) (mThen (mSet (mBin vIx (mBin vIx (mVar 1) (mVar 4)) (mVar 3)) (gN 5))
 (mWhen (mTest (mBin (vIs true) (mVar 5) (mC .non))) (mThen (mSet (mLcG false [8] (mItemsG (mBin vIx (mVar 1) (mVar 3))) (gN 8) (mYes) (mCall M_summed_entry (mCons (mVar 5) (mCons (mVar 8) (mNil))))) (gN 6))
 (mSet (mLcG false [8, 9] (mZipG (mCons (mBin vIx (mVar 1) (mVar 4)) (mCons (mVar 6) (mNil)))) (gT 2 (gCons' (gN 8) (gCons' (gN 9) (gNil')))) (mYes) (mCall M_greater_entry (mCons (mVar 8) (mCons (mVar 9) (mNil))))) (gIx (mVar 1) (mVar 4)))) (mSkip))))))
 (mRet (mCall vTuple (mCons (mLcG false [7] (mItemsG (mVar 1)) (gN 7) (mYes) (mCall vTuple (mCons (mVar 7) (mNil)))) (mNil))))))
noncomputable def M_heaviest : MCall := genM 0 8 N_heaviest m_heaviest
abbrev N_hull_rows : List Str := ["settings", "points", "at", "to", "some"]
theorem sc_hull_rows : FnScope N_hull_rows ["settings"] (defScope (topS 9)) := ⟨rfl, rfl, rfl, by decide +kernel, rfl, by decide +kernel, by decide +kernel⟩
noncomputable def m_hull_rows : MS := mThen (mSet (mLstRg1 false (mCall vLen (mCons (mBin vIx (mVar 0) (mC (.int 0))) (mNil)))) (gN 1))
 (mRet (mCall vTuple (mCons (mLc false [2] (mItems (mVar 1)) (gN 2) (mYes) (mCall vTuple (mCons (mLc false [3] (mItems (mVar 1)) (gN 3) (mYes) (mCall vMin (mCons (mLc false [4] (mItems (mVar 0)) (gN 4) (mYes) (mBin vSub (mBin vIx (mVar 4) (mVar 3)) (mBin vIx (mVar 4) (mVar 2)))) (mNil)))) (mNil)))) (mNil))))
noncomputable def M_hull_rows : MCall := genM 0 8 N_hull_rows m_hull_rows
abbrev N_mixture : List Str := ["settings", "picks", "found", "point", "pairs", "number", "shift"]
theorem sc_mixture : FnScope N_mixture ["settings", "picks"] (defScope (topS 10)) := ⟨rfl, rfl, rfl, by decide +kernel, rfl, by decide +kernel, by decide +kernel⟩
noncomputable def m_mixture : MS := mThen (mSet (mLst (mNil)) (gN 2))
 (mThen (mFor (mRng1 (mCons (mCall vLen (mCons (mBin vIx (mVar 0) (mC (.int 0))) (mNil))) (mNil))) (gN 3) (mDo (mMeth "list" vAppend (mVar 2) (mCons (mCall vMax (mCons (mLc false [4] (mItems (mVar 1)) (gN 4) (mYes) (mCall vMin (mCons (mLc false [5, 6] (mItems (mVar 4)) (gT 2 (gCons' (gN 5) (gCons' (gN 6) (gNil')))) (mYes) (mBin vAdd (mBin vIx (mBin vIx (mVar 0) (mVar 5)) (mVar 3)) (mVar 6))) (mNil)))) (mNil))) (mNil)))))
 (mRet (mCall vTuple (mCons (mVar 2) (mNil)))))
noncomputable def M_mixture : MCall := genM 0 8 N_mixture m_mixture
abbrev N_nearest_to : List Str := ["settings", "one", "other", "gaps", "some"]
theorem sc_nearest_to : FnScope N_nearest_to ["settings", "one", "other"] (defScope (topS 11)) := ⟨rfl, rfl, rfl, by decide +kernel, rfl, by decide +kernel, by decide +kernel⟩
noncomputable def m_nearest_to : MS := mThen (mSet (mLc false [4] (mItems (mVar 0)) (gN 4) (mYes) (mBin vSub (mBin vIx (mVar 4) (mVar 2)) (mBin vIx (mVar 4) (mVar 1)))) (gN 3))
 (mRet (mMeth "list" vIndex (mVar 3) (mCons (mCall vMin (mCons (mVar 3) (mNil))) (mNil))))
noncomputable def M_nearest_to : MCall := genM 0 8 N_nearest_to m_nearest_to
abbrev N_picks_of : List Str := ["settings", "value", "found", "point", "numbers", "other", "number"]
theorem sc_picks_of : FnScope N_picks_of ["settings", "value"] (defScope (topS 12)) := ⟨rfl, rfl, rfl, by decide +kernel, rfl, by decide +kernel, by decide +kernel⟩
noncomputable def m_picks_of : MS := mThen (mWhen (mNot (mTru (mCall M_is_setting (mCons (mCall M_hull_rows (mCons (mVar 0) (mNil))) (mCons (mVar 1) (mNil)))))) (mRet (mC .non)) (mSkip))
 (mThen (mSet (mLst (mNil)) (gN 2))
 (mThen (mFor (mRng1 (mCons (mCall vLen (mCons (mVar 1) (mNil))) (mNil))) (gN 3) (mThen (mSet (mLc false [5] (mRng1 (mCons (mCall vLen (mCons (mVar 1) (mNil))) (mNil))) (gN 5) (mYes) (mCall M_nearest_to (mCons (mVar 0) (mCons (mVar 3) (mCons (mVar 5) (mNil)))))) (gN 4))
 (mDo (mMeth "list" vAppend (mVar 2) (mCons (mCall vTuple (mCons (mLc false [6] (mItems (mVar 4)) (gN 6) (mYes) (mTup (mCons (mVar 6) (mCons (mBin vSub (mBin vIx (mVar 1) (mVar 3)) (mBin vIx (mBin vIx (mVar 0) (mVar 6)) (mVar 3))) (mNil))))) (mNil))) (mNil))))))
 (mRet (mIf (mTest (mBin vNe (mVar 2) (mFro (mNil)))) (mCall vTuple (mCons (mVar 2) (mNil))) (mTup (mCons (mTup (mCons (mTup (mCons (mC (.int 0)) (mCons (mC (.int 0)) (mNil)))) (mNil))) (mNil)))))))
noncomputable def M_picks_of : MCall := genM 0 8 N_picks_of m_picks_of
abbrev N__law_heap : List Str := ["script", "cell", "cells", "stir"]
theorem sc__law_heap : FnScope N__law_heap ["script"] (defScope (topS 14)) := ⟨rfl, rfl, rfl, by decide +kernel, rfl, by decide +kernel, by decide +kernel⟩
noncomputable def m__law_heap : MS := mThen (mPar 2 3 (mCons (mLc false [1] (mItems (mSl (vSl false) (mVar 0) (mNo) (mPart (mC (.int 60))))) (gN 1) (mYes) (mBin vAdd (mBin vMul (mC (.int 2)) (mCall vAbs (mCons (mVar 1) (mNil)))) (mCall vInt (mCons (mBin vLt (mVar 1) (mC (.int 0))) (mNil))))) (mCons (mC (.int 70001)) (mNil))))
 (mThen (mFor (mItems (mVar 2)) (gN 1) (mSet (mBin vMod (mCall vInt (mCons (mBin vAdd (mBin vAdd (mBin vMul (mVar 3) (mC (.int 69621))) (mBin vMod (mCall vInt (mCons (mVar 1) (mNil))) (mC (.int 2147483563)))) (mC (.int 29))) (mNil))) (mC (.int 2147483647))) (gN 3)))
 (mRet (mLst (mCons (mRev true (mLc false [1] (mItems (mVar 2)) (gN 1) (mTest (mBin vGe (mVar 1) (mBin vPow (mC (.int 10)) (mC (.int 18))))) (mVar 1))) (mCons (mVar 3) (mNil))))))
noncomputable def M__law_heap : MCall := genM 2 8 N__law_heap m__law_heap
abbrev N__law_draw : List Str := ["heap", "many", "rest"]
theorem sc__law_draw : FnScope N__law_draw ["heap", "many"] (defScope (topS 15)) := ⟨rfl, rfl, rfl, by decide +kernel, rfl, by decide +kernel, by decide +kernel⟩
noncomputable def m__law_draw : MS := mThen (mWhile (mAnd (mTest (mBin vNe (mBin vIx (mVar 0) (mC (.int 0))) (mFro (mNil)))) (mTest (mBin vEq (mBin vIx (mBin vIx (mVar 0) (mC (.int 0))) (mUn vNeg (mC (.int 1)))) (mC (.int 0))))) (mDo (mMeth "list" vPop (mBin vIx (mVar 0) (mC (.int 0))) mNil)))
 (mThen (mWhen (mTest (mBin vNe (mBin vIx (mVar 0) (mC (.int 0))) (mFro (mNil)))) (mThen (mSet (mMeth "list" vPop (mBin vIx (mVar 0) (mC (.int 0))) mNil) (gN 2))
 (mThen (mDo (mMeth "list" vAppend (mBin vIx (mVar 0) (mC (.int 0))) (mCons (mBin vDivW (mVar 2) (mVar 1)) (mNil))))
 (mRet (mBin vMod (mCall vInt (mCons (mVar 2) (mNil))) (mVar 1))))) (mSkip))
 (mThen (mSet (mBin vMod (mCall vInt (mCons (mBin vAdd (mBin vMul (mBin vIx (mVar 0) (mC (.int 1))) (mC (.int 48271))) (mC (.int 17))) (mNil))) (mC (.int 2147483647))) (gIx (mVar 0) (mC (.int 1))))
 (mRet (mBin vMod (mCall vInt (mCons (mBin vDivW (mBin vIx (mVar 0) (mC (.int 1))) (mC (.int 32))) (mNil))) (mVar 1)))))
noncomputable def M__law_draw : MCall := genM 0 8 N__law_draw m__law_draw
abbrev N__law_pick : List Str := ["heap", "some"]
theorem sc__law_pick : FnScope N__law_pick ["heap", "some"] (defScope (topS 16)) := ⟨rfl, rfl, rfl, by decide +kernel, rfl, by decide +kernel, by decide +kernel⟩
noncomputable def m__law_pick : MS := mRet (mBin vIx (mVar 1) (mCall M__law_draw (mCons (mVar 0) (mCons (mCall vLen (mCons (mVar 1) (mNil))) (mNil)))))
noncomputable def M__law_pick : MCall := genM 0 8 N__law_pick m__law_pick
abbrev N__law_hull : List Str := ["settings", "many", "at", "to", "some"]
theorem sc__law_hull : FnScope N__law_hull ["settings"] (defScope (topS 18)) := ⟨rfl, rfl, rfl, by decide +kernel, rfl, by decide +kernel, by decide +kernel⟩
noncomputable def m__law_hull : MS := mThen (mSet (mLstRg1 false (mCall vLen (mCons (mBin vIx (mVar 0) (mC (.int 0))) (mNil)))) (gN 1))
 (mRet (mCall vTuple (mCons (mLc false [2] (mItems (mVar 1)) (gN 2) (mYes) (mCall vTuple (mCons (mLc false [3] (mItems (mVar 1)) (gN 3) (mYes) (mCall vMin (mCons (mLcG false [4] (mItemsG (mVar 0)) (gN 4) (mYes) (mBin vSub (mBin vIx (mVar 4) (mVar 3)) (mBin vIx (mVar 4) (mVar 2)))) (mNil)))) (mNil)))) (mNil))))
noncomputable def M__law_hull : MCall := genM 0 8 N__law_hull m__law_hull
abbrev N__law_keeps : List Str := ["rows", "setting", "one", "row", "other", "entry"]
theorem sc__law_keeps : FnScope N__law_keeps ["rows", "setting"] (defScope (topS 19)) := ⟨rfl, rfl, rfl, by decide +kernel, rfl, by decide +kernel, by decide +kernel⟩
noncomputable def m__law_keeps : MS := mThen (mFor (mEnumA (mCons (mVar 0) (mNil))) (gT 2 (gCons' (gN 2) (gCons' (gN 3) (gNil')))) (mWhen (mNot (mTru (mCall vAll (mCons (mLc false [4, 5] (mEnumA (mCons (mVar 3) (mNil))) (gT 2 (gCons' (gN 4) (gCons' (gN 5) (gNil')))) (mYes) (mBin vGe (mBin vSub (mBin vIx (mVar 1) (mVar 4)) (mBin vIx (mVar 1) (mVar 2))) (mVar 5))) (mNil))))) (mRet (mC (.bl false))) (mSkip)))
 (mRet (mC (.bl true)))
noncomputable def M__law_keeps : MCall := genM 0 8 N__law_keeps m__law_keeps
abbrev N__law_mixture : List Str := ["settings", "picks", "found", "pairs", "least", "number", "shift", "some", "item", "pair"]
theorem sc__law_mixture : FnScope N__law_mixture ["settings", "picks"] (defScope (topS 20)) := ⟨rfl, rfl, rfl, by decide +kernel, rfl, by decide +kernel, by decide +kernel⟩
noncomputable def m__law_mixture : MS := mThen (mSet (mC .non) (gN 2))
 (mThen (mFor (mItems (mVar 1)) (gN 3) (mThen (mSet (mC .non) (gN 4))
 (mThen (mFor (mItems (mVar 3)) (gT 2 (gCons' (gN 5) (gCons' (gN 6) (gNil')))) (mThen (mSet (mLc false [8] (mItems (mBin vIx (mVar 0) (mVar 5))) (gN 8) (mYes) (mBin vAdd (mVar 8) (mVar 6))) (gN 7))
 (mSet (mIf (mTest (mBin (vIs false) (mVar 4) (mC .non))) (mVar 7) (mLc false [9] (mZipN (mCons (mVar 4) (mCons (mVar 7) (mNil)))) (gN 9) (mYes) (mCall vMin (mCons (mBin vIx (mVar 9) (mC (.int 0))) (mCons (mBin vIx (mVar 9) (mC (.int 1))) (mNil)))))) (gN 4))))
 (mSet (mIf (mTest (mBin (vIs false) (mVar 2) (mC .non))) (mVar 4) (mLc false [9] (mZipN (mCons (mVar 2) (mCons (mVar 4) (mNil)))) (gN 9) (mYes) (mCall vMax (mCons (mBin vIx (mVar 9) (mC (.int 0))) (mCons (mBin vIx (mVar 9) (mC (.int 1))) (mNil)))))) (gN 2)))))
 (mRet (mCall vTuple (mCons (mVar 2) (mNil)))))
noncomputable def M__law_mixture : MCall := genM 0 8 N__law_mixture m__law_mixture
abbrev N__law_is_integer : List Str := ["value"]
theorem sc__law_is_integer : FnScope N__law_is_integer ["value"] (defScope (topS 21)) := ⟨rfl, rfl, rfl, by decide +kernel, rfl, by decide +kernel, by decide +kernel⟩
noncomputable def m__law_is_integer : MS := mRet (mAndV (mCall vIsi (mCons (mVar 0) (mCons (mC (.raw (.ty "int"))) (mNil)))) (mNotV (mCall vIsi (mCons (mVar 0) (mCons (mC (.raw (.ty "bool"))) (mNil))))))
noncomputable def M__law_is_integer : MCall := genM 0 8 N__law_is_integer m__law_is_integer
abbrev N__law_are_picks : List Str := ["settings", "value", "pairs", "pair"]
theorem sc__law_are_picks : FnScope N__law_are_picks ["settings", "value"] (defScope (topS 22)) := ⟨rfl, rfl, rfl, by decide +kernel, rfl, by decide +kernel, by decide +kernel⟩
noncomputable def m__law_are_picks : MS := mThen (mWhen (mOr (mNot (mTru (mCall vIsi (mCons (mVar 1) (mCons (mC (.raw (.ty "tuple"))) (mNil)))))) (mOr (mTest (mBin vEq (mVar 1) (mTup (mNil)))) (mNot (mTru (mCall vAll (mCons (mLc false [2] (mItems (mVar 1)) (gN 2) (mYes) (mAndV (mCall vIsi (mCons (mVar 2) (mCons (mC (.raw (.ty "tuple"))) (mNil)))) (mBin vNe (mVar 2) (mTup (mNil))))) (mNil))))))) (mRet (mC (.bl false))) (mSkip))
 (mThen (mFor (mItems (mVar 1)) (gN 2) (mThen (mWhen (mNot (mTru (mCall vAll (mCons (mLc false [3] (mItems (mVar 2)) (gN 3) (mYes) (mAndV (mCall vIsi (mCons (mVar 3) (mCons (mC (.raw (.ty "tuple"))) (mNil)))) (mBin vEq (mCall vLen (mCons (mVar 3) (mNil))) (mC (.int 2))))) (mNil))))) (mRet (mC (.bl false))) (mSkip))
 (mWhen (mNot (mTru (mCall vAll (mCons (mLc false [3] (mItems (mVar 2)) (gN 3) (mYes) (mAndV (mCall M__law_is_integer (mCons (mBin vIx (mVar 3) (mC (.int 0))) (mNil))) (mAndV (mCall M__law_is_integer (mCons (mBin vIx (mVar 3) (mC (.int 1))) (mNil))) (mChain vLe vLt (mC (.int 0)) (mBin vIx (mVar 3) (mC (.int 0))) (mCall vLen (mCons (mVar 0) (mNil))))))) (mNil))))) (mRet (mC (.bl false))) (mSkip))))
 (mRet (mC (.bl true))))
noncomputable def M__law_are_picks : MCall := genM 0 8 N__law_are_picks m__law_are_picks
abbrev N__law_picks_right : List Str := ["settings", "value", "told", "again"]
theorem sc__law_picks_right : FnScope N__law_picks_right ["settings", "value"] (defScope (topS 23)) := ⟨rfl, rfl, rfl, by decide +kernel, rfl, by decide +kernel, by decide +kernel⟩
noncomputable def m__law_picks_right : MS := mThen (mSet (mCall M_picks_of (mCons (mVar 0) (mCons (mVar 1) (mNil)))) (gN 2))
 (mThen (mWhen (mOr (mNot (mTru (mCall M__law_keeps (mCons (mCall M__law_hull (mCons (mVar 0) (mNil))) (mCons (mVar 1) (mNil)))))) (mTest (mBin (vIs false) (mVar 2) (mC .non)))) (mRet (mAndV (mBin (vIs false) (mVar 2) (mC .non)) (mNotV (mCall M__law_keeps (mCons (mCall M__law_hull (mCons (mVar 0) (mNil))) (mCons (mVar 1) (mNil))))))) (mSkip))
 (mThen (mSet (mCall M_picks_of (mKw [1, 0] mNil (mCons (mVar 1) (mCons (mVar 0) (mNil))))) (gN 3))
 (mThen (mWhen (mOr (mNot (mTru (mCall M__law_are_picks (mCons (mVar 0) (mCons (mVar 2) (mNil)))))) (mOr (mTest (mBin vNe (mVar 3) (mVar 2))) (mNot (mTru (mCall M__law_are_picks (mCons (mVar 0) (mCons (mVar 3) (mNil)))))))) (mRet (mC (.bl false))) (mSkip))
 (mRet (mAndV (mBin vEq (mCall M__law_mixture (mCons (mVar 0) (mCons (mVar 2) (mNil)))) (mVar 1)) (mBin vEq (mCall M_mixture (mCons (mVar 0) (mCons (mVar 2) (mNil)))) (mVar 1)))))))
noncomputable def M__law_picks_right : MCall := genM 0 8 N__law_picks_right m__law_picks_right
abbrev N__law_level : List Str := ["setting", "item"]
theorem sc__law_level : FnScope N__law_level ["setting"] (defScope (topS 24)) := ⟨rfl, rfl, rfl, by decide +kernel, rfl, by decide +kernel, by decide +kernel⟩
noncomputable def m__law_level : MS := mRet (mCall vTuple (mCons (mLc false [1] (mItems (mVar 0)) (gN 1) (mYes) (mBin vSub (mVar 1) (mBin vIx (mVar 0) (mC (.int 0))))) (mNil)))
noncomputable def M__law_level : MCall := genM 0 8 N__law_level m__law_level
abbrev N__law_round : List Str := ["settings", "some", "found", "left", "far", "turn", "new", "other", "shift", "pairs", "at", "pair"]
theorem sc__law_round : FnScope N__law_round ["settings"] (defScope (topS 25)) := ⟨rfl, rfl, rfl, by decide +kernel, rfl, by decide +kernel, by decide +kernel⟩
noncomputable def m__law_round : MS := mThen (mPar 2 3 (mCons (mLst (mNil)) (mCons (mLc true [1] (mItems (mVar 0)) (gN 1) (mYes) (mCall M__law_level (mCons (mVar 1) (mNil)))) (mNil))))
 (mThen (mSet (mCall vMax (mCons (mLc false [1] (mItems (mVar 0)) (gN 1) (mYes) (mBin vSub (mCall vMax (mCons (mVar 1) (mNil))) (mCall vMin (mCons (mVar 1) (mNil))))) (mNil))) (gN 4))
 (mThen (mFor (mRng1 (mCons (mC (.int 400)) (mNil))) (gN 5) (mThen (mWhen (mTest (mBin vEq (mVar 3) (mFro (mNil)))) (mBk) (mSkip))
 (mThen (mSet (mMeth "list" vPop (mVar 3) mNil) (gN 6))
 (mWhen (mTest (mBin (vIn2 true) (mVar 6) (mVar 2))) (mThen (mDo (mMeth "list" vAppend (mVar 2) (mCons (mVar 6) (mNil))))
 (mFor (mItems (mCall (vList false) (mCons (mVar 2) (mNil)))) (gN 7) (mFor (mRng2 (mCons (mBin vSub (mC (.int 0)) (mBin vMul (mC (.int 2)) (mVar 4))) (mCons (mBin vAdd (mBin vMul (mC (.int 2)) (mVar 4)) (mC (.int 1))) (mNil)))) (gN 8) (mThen (mSet (mLc false [10] (mRng1 (mCons (mCall vLen (mCons (mVar 6) (mNil))) (mNil))) (gN 10) (mYes) (mTup (mCons (mBin vIx (mVar 6) (mVar 10)) (mCons (mBin vAdd (mBin vIx (mVar 7) (mVar 10)) (mVar 8)) (mNil))))) (gN 9))
 (mFor (mItems (mFro (mCons (mCall M__law_level (mCons (mLc false [11] (mItems (mVar 9)) (gN 11) (mYes) (mCall vMax (mCons (mVar 11) (mNil)))) (mNil))) (mCons (mCall M__law_level (mCons (mLc false [11] (mItems (mVar 9)) (gN 11) (mYes) (mCall vMin (mCons (mVar 11) (mNil)))) (mNil))) (mNil))))) (gN 1) (mWhen (mAnd (mTest (mBin (vIn2 true) (mVar 1) (mVar 2))) (mTest (mBin (vIn2 true) (mVar 1) (mVar 3)))) (mDo (mMeth "list" vAppend (mVar 3) (mCons (mVar 1) (mNil)))) (mSkip))))))) (mSkip)))))
 (mRet (mCall (vSorted false) (mCons (mVar 2) (mNil))))))
noncomputable def M__law_round : MCall := genM 0 8 N__law_round m__law_round
abbrev N__law_all : List Str := ["rows", "found", "point", "longer", "some", "number"]
theorem sc__law_all : FnScope N__law_all ["rows"] (defScope (topS 26)) := ⟨rfl, rfl, rfl, by decide +kernel, rfl, by decide +kernel, by decide +kernel⟩
noncomputable def m__law_all : MS := mThen (mSet (mFro (mCons (mTup (mCons (mC (.int 0)) (mNil))) (mNil))) (gN 1))
 (mThen (mFor (mRng2 (mCons (mC (.int 1)) (mCons (mCall vLen (mCons (mVar 0) (mNil))) (mNil)))) (gN 2) (mThen (mSet (mFro (mNil)) (gN 3))
 (mThen (mFor (mItems (mVar 1)) (gN 4) (mSet (mBin vAdd (mVar 3) (mLc false [5] (mRng2 (mCons (mBin vIx (mBin vIx (mVar 0) (mC (.int 0))) (mVar 2)) (mCons (mBin vSub (mC (.int 1)) (mBin vIx (mBin vIx (mVar 0) (mVar 2)) (mC (.int 0)))) (mNil)))) (gN 5) (mYes) (mBin vAdd (mVar 4) (mTup (mCons (mVar 5) (mNil)))))) (gN 3)))
 (mSet (mVar 3) (gN 1)))))
 (mRet (mCall (vSorted false) (mCons (mLc false [4] (mItems (mVar 1)) (gN 4) (mTru (mCall M__law_keeps (mCons (mVar 0) (mCons (mVar 4) (mNil))))) (mVar 4)) (mNil)))))
noncomputable def M__law_all : MCall := genM 0 8 N__law_all m__law_all
abbrev N__law_between_right : List Str := ["heap", "many", "turn", "settings", "rows", "kept", "shift", "some", "point", "item"]
theorem sc__law_between_right : FnScope N__law_between_right ["heap", "many"] (defScope (topS 27)) := ⟨rfl, rfl, rfl, by decide +kernel, rfl, by decide +kernel, by decide +kernel⟩
noncomputable def m__law_between_right : MS := mThen (mSet (mCall vTuple (mCons (mLc false [2] (mRng1 (mCons (mBin vAdd (mC (.int 1)) (mCall M__law_draw (mCons (mVar 0) (mCons (mIf (mTest (mBin vGt (mVar 1) (mC (.int 2)))) (mC (.int 3)) (mC (.int 4))) (mNil))))) (mNil))) (gN 2) (mYes) (mCall vTuple (mCons (mLc false [8] (mRng1 (mCons (mVar 1) (mNil))) (gN 8) (mYes) (mCall M__law_draw (mCons (mVar 0) (mCons (mC (.int 3)) (mNil))))) (mNil)))) (mNil))) (gN 3))
 (mThen (mSet (mCall M_hull_rows (mCons (mVar 3) (mNil))) (gN 4))
 (mThen (mWhen (mOr (mTest (mBin vNe (mCall vRepr (mCons (mVar 4) (mNil))) (mCall vRepr (mCons (mCall M__law_hull (mCons (mVar 3) (mNil))) (mNil))))) (mTest (mBin vNe (mCall M_hull_rows (mKw [0] mNil (mCons (mVar 3) (mNil)))) (mVar 4)))) (mRet (mC (.bl false))) (mSkip))
 (mThen (mSet (mCall M__law_all (mCons (mVar 4) (mNil))) (gN 5))
 (mThen (mWhen (mTest (mBin vNe (mVar 5) (mCall M__law_round (mCons (mVar 3) (mNil))))) (mRet (mC (.bl false))) (mSkip))
 (mThen (mSet (mBin vSub (mCall M__law_draw (mCons (mVar 0) (mCons (mC (.int 9)) (mNil)))) (mC (.int 4))) (gN 6))
 (mThen (mFor (mItems (mVar 5)) (gN 7) (mWhen (mNot (mTru (mCall M__law_picks_right (mCons (mVar 3) (mCons (mCall vTuple (mCons (mLc false [9] (mItems (mVar 7)) (gN 9) (mYes) (mBin vAdd (mVar 9) (mVar 6))) (mNil))) (mNil)))))) (mRet (mC (.bl false))) (mSkip)))
 (mThen (mFor (mRng1 (mCons (mC (.int 6)) (mNil))) (gN 2) (mWhen (mNot (mTru (mCall M__law_picks_right (mCons (mVar 3) (mCons (mCall vTuple (mCons (mLc false [8] (mRng1 (mCons (mVar 1) (mNil))) (gN 8) (mYes) (mCall M__law_draw (mCons (mVar 0) (mCons (mC (.int 5)) (mNil))))) (mNil))) (mNil)))))) (mRet (mC (.bl false))) (mSkip)))
 (mRet (mC (.bl true))))))))))
noncomputable def M__law_between_right : MCall := genM 0 8 N__law_between_right m__law_between_right
abbrev N__law_setting : List Str := ["heap", "many", "settings", "way", "shift", "point", "item"]
theorem sc__law_setting : FnScope N__law_setting ["heap", "many", "settings"] (defScope (topS 28)) := ⟨rfl, rfl, rfl, by decide +kernel, rfl, by decide +kernel, by decide +kernel⟩
noncomputable def m__law_setting : MS := mThen (mSet (mCall M__law_draw (mCons (mVar 0) (mCons (mC (.int 5)) (mNil)))) (gN 3))
 (mThen (mWhen (mTest (mBin vEq (mVar 3) (mC (.int 0)))) (mRet (mCall vTuple (mCons (mLc false [5] (mRng1 (mCons (mVar 1) (mNil))) (gN 5) (mYes) (mBin vSub (mCall M__law_draw (mCons (mVar 0) (mCons (mBin vPow (mC (.int 10)) (mC (.int 24))) (mNil)))) (mBin vPow (mC (.int 10)) (mC (.int 23))))) (mNil)))) (mSkip))
 (mThen (mWhen (mAnd (mTest (mBin vLt (mVar 3) (mC (.int 3)))) (mTest (mBin vNe (mVar 2) (mFro (mNil))))) (mThen (mSet (mCall M__law_draw (mCons (mVar 0) (mCons (mC (.int 20)) (mNil)))) (gN 4))
 (mRet (mCall vTuple (mCons (mLc false [6] (mItems (mCall M__law_pick (mCons (mVar 0) (mCons (mVar 2) (mNil))))) (gN 6) (mYes) (mBin vAdd (mBin vAdd (mVar 6) (mVar 4)) (mCall M__law_pick (mCons (mVar 0) (mCons (mFro (mCons (mC (.int 0)) (mCons (mC (.int 0)) (mCons (mC (.int 1)) (mCons (mBin vSub (mC (.int 0)) (mC (.int 1))) (mCons (mC (.int 3)) (mNil))))))) (mNil)))))) (mNil))))) (mSkip))
 (mRet (mCall vTuple (mCons (mLc false [5] (mRng1 (mCons (mVar 1) (mNil))) (gN 5) (mYes) (mBin vSub (mCall M__law_draw (mCons (mVar 0) (mCons (mC (.int 12)) (mNil)))) (mC (.int 6)))) (mNil))))))
noncomputable def M__law_setting : MCall := genM 0 8 N__law_setting m__law_setting
abbrev N__law_many_right : List Str := ["heap", "many", "settings", "turn", "given", "rows", "picks", "size", "due", "told", "at", "more", "some", "pair"]
theorem sc__law_many_right : FnScope N__law_many_right ["heap", "many"] (defScope (topS 29)) := ⟨rfl, rfl, rfl, by decide +kernel, rfl, by decide +kernel, by decide +kernel⟩
noncomputable def m__law_many_right : MS := mThen (mSet (mLst (mNil)) (gN 2))
 (mThen (mFor (mRng1 (mCons (mBin vAdd (mC (.int 1)) (mCall M__law_draw (mCons (mVar 0) (mCons (mC (.int 6)) (mNil))))) (mNil))) (gN 3) (mDo (mMeth "list" vAppend (mVar 2) (mCons (mCall M__law_setting (mCons (mVar 0) (mCons (mVar 1) (mCons (mVar 2) (mNil))))) (mNil)))))
 (mThen (mSet (mTup (mCons (mCall vTuple (mCons (mVar 2) (mNil))) (mCons (mCall M__law_hull (mCons (mVar 2) (mNil))) (mNil)))) (gT 2 (gCons' (gN 4) (gCons' (gN 5) (gNil')))))
 (mThen (mWhen (mOr (mTest (mBin vNe (mCall vRepr (mCons (mCall M_hull_rows (mCons (mVar 4) (mNil))) (mNil))) (mCall vRepr (mCons (mVar 5) (mNil))))) (mOr (mTest (mBin vNe (mCall M_heaviest (mCons (mVar 5) (mNil))) (mVar 5))) (mNot (mTru (mCall vAll (mCons (mLc false [12] (mItems (mVar 4)) (gN 12) (mYes) (mCall M_is_setting (mCons (mVar 5) (mCons (mVar 12) (mNil))))) (mNil))))))) (mRet (mC (.bl false))) (mSkip))
 (mThen (mSet (mLst (mNil)) (gN 6))
 (mThen (mFor (mRng1 (mCons (mBin vAdd (mC (.int 1)) (mCall M__law_draw (mCons (mVar 0) (mCons (mC (.int 4)) (mNil))))) (mNil))) (gN 3) (mThen (mSet (mBin vAdd (mC (.int 1)) (mCall M__law_draw (mCons (mVar 0) (mCons (mC (.int 3)) (mNil))))) (gN 7))
 (mDo (mMeth "list" vAppend (mVar 6) (mCons (mCall vTuple (mCons (mLc false [13] (mRng1 (mCons (mVar 7) (mNil))) (gN 13) (mYes) (mTup (mCons (mCall M__law_draw (mCons (mVar 0) (mCons (mCall vLen (mCons (mVar 2) (mNil))) (mNil)))) (mCons (mBin vSub (mCall M__law_draw (mCons (mVar 0) (mCons (mC (.int 13)) (mNil)))) (mC (.int 6))) (mNil))))) (mNil))) (mNil))))))
 (mThen (mPar 8 9 (mCons (mCall M__law_mixture (mCons (mVar 4) (mCons (mCall vTuple (mCons (mVar 6) (mNil))) (mNil)))) (mCons (mCall M_mixture (mCons (mVar 4) (mCons (mCall vTuple (mCons (mVar 6) (mNil))) (mNil)))) (mNil))))
 (mThen (mWhen (mOr (mTest (mBin vNe (mCall vRepr (mCons (mVar 9) (mNil))) (mCall vRepr (mCons (mVar 8) (mNil))))) (mOr (mTest (mBin vNe (mCall M_mixture (mKw [1, 0] mNil (mCons (mCall vTuple (mCons (mVar 6) (mNil))) (mCons (mVar 4) (mNil))))) (mVar 8))) (mNot (mTru (mCall M__law_keeps (mCons (mVar 5) (mCons (mVar 8) (mNil)))))))) (mRet (mC (.bl false))) (mSkip))
 (mThen (mWhen (mOr (mNot (mTru (mCall M__law_picks_right (mCons (mVar 4) (mCons (mVar 8) (mNil)))))) (mTest (mBin (vIs false) (mCall M_picks_of (mCons (mVar 4) (mCons (mVar 8) (mNil)))) (mC .non)))) (mRet (mC (.bl false))) (mSkip))
 (mThen (mFor (mRng1 (mCons (mVar 1) (mNil))) (gN 10) (mThen (mSet (mCall M__law_pick (mCons (mVar 0) (mCons (mFro (mCons (mC (.int 1)) (mCons (mBin vSub (mC (.int 0)) (mC (.int 1))) (mCons (mC (.int 2)) (mCons (mBin vPow (mC (.int 10)) (mC (.int 23))) (mNil)))))) (mNil)))) (gN 11))
 (mWhen (mNot (mTru (mCall M__law_picks_right (mCons (mVar 4) (mCons (mBin vAdd (mBin vAdd (mSl (vSl false) (mVar 8) (mNo) (mPart (mVar 10))) (mTup (mCons (mBin vAdd (mBin vIx (mVar 8) (mVar 10)) (mVar 11)) (mNil)))) (mSl (vSl false) (mVar 8) (mPart (mBin vAdd (mVar 10) (mC (.int 1)))) (mNo))) (mNil)))))) (mRet (mC (.bl false))) (mSkip))))
 (mRet (mC (.bl true))))))))))))
noncomputable def M__law_many_right : MCall := genM 0 8 N__law_many_right m__law_many_right
abbrev N_law : List Str := ["script", "heap", "turn", "many", "pair"]
theorem sc_law : FnScope N_law ["script"] (defScope (topS 30)) := ⟨rfl, rfl, rfl, by decide +kernel, rfl, by decide +kernel, by decide +kernel⟩
noncomputable def m_law : MS := mThen (mSet (mCall M__law_heap (mCons (mVar 0) (mNil))) (gN 1))
 (mThen (mFor (mRng1 (mCons (mBin vAdd (mBin vAdd (mC (.int 1)) (mCall vInt (mCons (mBin vGt (mCall vLen (mCons (mVar 0) (mNil))) (mC (.int 0))) (mNil)))) (mCall vInt (mCons (mBin vGt (mCall vLen (mCons (mVar 0) (mNil))) (mC (.int 2))) (mNil)))) (mNil))) (gN 2) (mThen (mFor (mItems (mFro (mCons (mC (.int 3)) (mCons (mCall M__law_pick (mCons (mVar 1) (mCons (mFro (mCons (mC (.int 2)) (mCons (mC (.int 3)) (mCons (mC (.int 1)) (mNil))))) (mNil)))) (mNil))))) (gN 3) (mWhen (mNot (mTru (mCall M__law_between_right (mCons (mVar 1) (mCons (mVar 3) (mNil)))))) (mRet (mC (.bl false))) (mSkip)))
 (mFor (mItems (mFro (mCons (mCall M__law_pick (mCons (mVar 1) (mCons (mFro (mCons (mC (.int 4)) (mCons (mC (.int 5)) (mCons (mC (.int 6)) (mCons (mC (.int 8)) (mNil)))))) (mNil)))) (mCons (mCall M__law_pick (mCons (mVar 1) (mCons (mFro (mCons (mC (.int 3)) (mCons (mC (.int 4)) (mCons (mC (.int 2)) (mCons (mC (.int 1)) (mNil)))))) (mNil)))) (mNil))))) (gN 3) (mWhen (mNot (mTru (mCall M__law_many_right (mCons (mVar 1) (mCons (mVar 3) (mNil)))))) (mRet (mC (.bl false))) (mSkip)))))
 (mThen (mSet (mTup (mCons (mTup (mCons (mC (.int 0)) (mCons (mC (.int 2)) (mCons (mC (.int 4)) (mNil))))) (mCons (mTup (mCons (mC (.int 0)) (mCons (mC (.int 1)) (mCons (mC (.int 5)) (mNil))))) (mNil)))) (gN 4))
 (mThen (mWhen (mOr (mTest (mBin vNe (mCall M_hull_rows (mCons (mVar 4) (mNil))) (mTup (mCons (mTup (mCons (mC (.int 0)) (mCons (mC (.int 1)) (mCons (mC (.int 4)) (mNil))))) (mCons (mTup (mCons (mBin vSub (mC (.int 0)) (mC (.int 2))) (mCons (mC (.int 0)) (mCons (mC (.int 2)) (mNil))))) (mCons (mTup (mCons (mBin vSub (mC (.int 0)) (mC (.int 5))) (mCons (mBin vSub (mC (.int 0)) (mC (.int 4))) (mCons (mC (.int 0)) (mNil))))) (mNil))))))) (mTest (mBin vNe (mCall M_mixture (mCons (mVar 4) (mCons (mTup (mCons (mTup (mCons (mTup (mCons (mC (.int 0)) (mCons (mC (.int 0)) (mNil)))) (mCons (mTup (mCons (mC (.int 1)) (mCons (mC (.int 0)) (mNil)))) (mNil)))) (mCons (mTup (mCons (mTup (mCons (mC (.int 0)) (mCons (mBin vSub (mC (.int 0)) (mC (.int 1))) (mNil)))) (mNil))) (mNil)))) (mNil)))) (mTup (mCons (mC (.int 0)) (mCons (mC (.int 1)) (mCons (mC (.int 4)) (mNil)))))))) (mRet (mC (.bl false))) (mSkip))
 (mThen (mWhen (mOr (mTest (mBin (vIs true) (mCall M_picks_of (mCons (mVar 4) (mCons (mTup (mCons (mC (.int 0)) (mCons (mC (.int 3)) (mCons (mC (.int 4)) (mNil))))) (mNil)))) (mC .non))) (mOr (mTest (mBin (vIs false) (mCall M_picks_of (mCons (mVar 4) (mCons (mTup (mCons (mC (.int 7)) (mCons (mC (.int 8)) (mCons (mC (.int 11)) (mNil))))) (mNil)))) (mC .non))) (mTest (mBin (vIs true) (mCall M_picks_of (mCons (mVar 4) (mCons (mTup (mCons (mC (.int 7)) (mCons (mC (.int 8)) (mCons (mC (.int 10)) (mNil))))) (mNil)))) (mC .non))))) (mRet (mC (.bl false))) (mSkip))
 (mRet (mAndV (mBin vEq (mCall M_hull_rows (mCons (mTup (mCons (mTup (mNil)) (mCons (mTup (mNil)) (mNil)))) (mNil))) (mTup (mNil))) (mAndV (mBin vEq (mCall M_mixture (mCons (mTup (mCons (mTup (mNil)) (mNil))) (mCons (mTup (mCons (mTup (mCons (mTup (mCons (mC (.int 0)) (mCons (mC (.int 4)) (mNil)))) (mNil))) (mNil))) (mNil)))) (mTup (mNil))) (mCall M__law_are_picks (mCons (mTup (mCons (mTup (mNil)) (mNil))) (mCons (mCall M_picks_of (mCons (mTup (mCons (mTup (mNil)) (mNil))) (mCons (mTup (mNil)) (mNil)))) (mNil)))))))))))
noncomputable def M_law : MCall := genM 0 8 N_law m_law
end T17
namespace T17
open PySem PySem.Spec PyProof.Rows L2 Fx
/-! ### the law's own draws -/
def hs (cells : List Int) (st : Int) (R : Store) : Store := .lst (cells.map .int) :: .lst [.ref 0, .int st] :: R
def WfR (R : Store) : Prop := ∀ cells st, Wf (hs cells st R)
theorem wfr_nil : WfR [] := fun cells st i c h => by
  match i with
  | 0 => simp [hs] at h; subst h; simp [refLtC]
  | 1 => simp [hs] at h; subst h; simp [refLtC, hs]
  | i + 2 => simp [hs] at h
def cellOf (c : Int) : Int := 2 * (if c < 0 then -c else c) + (if c < 0 then 1 else 0)
theorem lc_cells {S : Store} {a b c : Option Val} : ∀ (xs : List Int) (o : Option Val), lcL (gN 1) mYes (mBin vAdd (mBin vMul (mC (.int 2)) (mCall vAbs (mCons (mVar 1) (mNil)))) (mCall vInt (mCons (mBin vLt (mVar 1) (mC (.int 0))) (mNil)))) [a, o, b, c] (xs.map Val.int) S = some ((xs.map cellOf).map Val.int, S)
  | [], o => rfl
  | x :: xs, o => by
    have ih := lc_cells (S := S) (a := a) (b := b) (c := c) xs o
    rw [List.map_cons, lc_cons]
    by_cases h : x < 0
    · simp [cmul2, ih, cellOf, h]
    · simp [cmul2, ih, cellOf, h]
theorem lc_big {S : Store} {a b c : Option Val} : ∀ (xs : List Int) (o : Option Val), lcL (gN 1) (mTest (mBin vGe (mVar 1) (mBin vPow (mC (.int 10)) (mC (.int 18))))) (mVar 1) [a, o, b, c] (xs.map Val.int) S = some ((xs.filter fun x => decide ((10 : Int) ^ 18 ≤ x)).map Val.int, S)
  | [], o => rfl
  | x :: xs, o => by
    have ih := lc_big (S := S) (a := a) (b := b) (c := c) xs o
    have hp : CPow 10 18 := ⟨by decide, by decide, by decide⟩
    rw [List.map_cons, lc_cons]
    by_cases h : (10 : Int) ^ 18 ≤ x
    · rw [List.filter_cons_of_pos (by simpa using h)]
      simp at h
      simp [hp, ih, h]
    · rw [List.filter_cons_of_neg (by simpa using h)]
      simp at h
      have h' : ¬ (1000000000000000000 : Int) ≤ x := by omega
      simp [hp, ih, h']
theorem for_stir {S : Store} {a b : Option Val} : ∀ (xs : List Int) (o : Option Val) (s : Int), ∃ o' s', forL (gN 1) (mSet (mBin vMod (mCall vInt (mCons (mBin vAdd (mBin vAdd (mBin vMul (mVar 3) (mC (.int 69621))) (mBin vMod (mCall vInt (mCons (mVar 1) (mNil))) (mC (.int 2147483563)))) (mC (.int 29))) (mNil))) (mC (.int 2147483647))) (gN 3)) (xs.map Val.int) [a, o, b, some (.int s)] S = some (.nx [a, o', b, some (.int s')], S)
  | [], o, s => ⟨o, s, rfl⟩
  | x :: xs, o, s => by
    have hc : CMul s 69621 := .inr (by decide)
    obtain ⟨o', s', ih⟩ := for_stir (S := S) (a := a) (b := b) xs (some (.int x)) ((s * 69621 + x.fmod 2147483563 + 29).fmod 2147483647)
    refine ⟨o', s', ?_⟩
    rw [← ih, List.map_cons, for_cons]
    simp [hc]
theorem call_heap {ns : List Int} : ∃ cells st, M__law_heap [.scr (ns.map .int)] [] = some (.ref 1, hs cells st []) ∧ cells.length ≤ 60 := by
  have e1 : 60 ≤ sizeLine := by rw [sizeLine_eq]; decide
  have e2 : 2 ≤ sizeLine := by rw [sizeLine_eq]; decide
  obtain ⟨xs, hxs⟩ : ∃ xs, (ns.take 60).map cellOf = xs := ⟨_, rfl⟩
  have hl : xs.length ≤ 60 := by rw [← hxs, List.length_map, List.length_take]; omega
  obtain ⟨o', s', hf⟩ := for_stir (S := []) (a := some (.scr (ns.map Val.int))) (b := some (.fro (xs.map Val.int))) xs none 70001
  have hc := lc_cells (S := []) (a := some (.scr (ns.map Val.int))) (b := none) (c := none) (ns.take 60) none
  rw [hxs] at hc
  have hb := lc_big (S := []) (a := some (.scr (ns.map Val.int))) (b := some (.fro (xs.map Val.int))) (c := some (.int s')) xs none
  obtain ⟨ys, hys⟩ : ∃ ys, (xs.filter fun x => decide ((10 : Int) ^ 18 ≤ x)) = ys := ⟨_, rfl⟩
  have hl2 : ys.length ≤ 60 := by
    rw [← hys]
    exact Nat.le_trans (List.length_filter_le _ _) hl
  rw [hys] at hb
  refine ⟨ys.reverse, s', ?_, by rw [List.length_reverse]; exact hl2⟩
  have ht : List.take 60 (ns.map Val.int) = (ns.take 60).map Val.int := by rw [List.map_take]
  unfold M__law_heap
  refine gen_of (J := []) (d0 := .ref 1) (S1 := hs ys.reverse s' []) ?_ rfl (wfr_nil _ _) (frz_id (by simp [hs]))
  unfold runB m__law_heap
  have z1 : xs.length ≤ sizeLine := by omega
  have z2 : ys.length ≤ sizeLine := by omega
  rw [← ht] at hc
  simp [startE_eq, N__law_heap, cutD_60, hc, hf, hb, z1, z2, e2, wipeE, hs]
theorem ix21 : ixN 2 1 = some 1 := rfl
theorem fm_pos {v m : Int} (hm : 0 < m) : 0 ≤ v.fmod m ∧ v.fmod m < m := ⟨Int.fmod_nonneg_of_pos v hm, Int.fmod_lt_of_pos v hm⟩
theorem wh_draw {R : Store} {st m : Int} {o : Option Val} : ∀ (n : Nat) (cells : List Int), cells.length ≤ n → ∃ cells', cells'.length ≤ cells.length ∧
    whN (mAnd (mTest (mBin vNe (mBin vIx (mVar 0) (mC (.int 0))) (mFro (mNil)))) (mTest (mBin vEq (mBin vIx (mBin vIx (mVar 0) (mC (.int 0))) (mUn vNeg (mC (.int 1)))) (mC (.int 0))))) (mDo (mMeth "list" vPop (mBin vIx (mVar 0) (mC (.int 0))) mNil)) (n + 1)
      [some (.ref 1), some (.int m), o] (hs cells st R) = some (.nx [some (.ref 1), some (.int m), o], hs cells' st R)
  | n, [], h => by
    refine ⟨[], Nat.le_refl _, ?_⟩
    have e := v_nil (S := hs [] st R) (r := 0) (xs := []) true rfl
    rw [wh_s]
    simp [hs] at e ⊢
    simp [e]
  | n, x :: xs, h => by
    have e := v_nil (S := hs (x :: xs) st R) (r := 0) (xs := x :: xs) true rfl
    have e2 := v_ixL (hs (x :: xs) st R) ((x :: xs).map Val.int) 0 (by simp) rfl
    obtain ⟨y, hy⟩ : ∃ y, (x :: xs).getLast? = some y := ⟨(x :: xs).getLast (by simp), List.getLast?_eq_some_getLast (by simp)⟩
    rw [List.getLast?_map, hy] at e2
    by_cases q : y = 0
    · cases n with
      | zero => simp at h
      | succ n =>
        obtain ⟨cells', h1, h2⟩ := wh_draw (R := R) (st := st) (m := m) (o := o) n (x :: xs).dropLast (by simp at h ⊢; omega)
        refine ⟨cells', by simp at h1 ⊢; omega, ?_⟩
        rw [← h2, wh_s]
        simp [hs] at e e2 ⊢
        simp [e, e2, q]
    · refine ⟨x :: xs, Nat.le_refl _, ?_⟩
      rw [wh_s]
      simp [hs] at e e2 ⊢
      simp [e, e2, q]
theorem small_log {m : Int} (h0 : 0 < m) (h1 : m < 1073741824) : m.natAbs.log2 < 9000 := by
  have : m.natAbs.log2 < 30 := (Nat.log2_lt (by omega)).mpr (by omega)
  omega
theorem call_draw {R : Store} {cells : List Int} {st m : Int} (w : WfR R) (hc : cells.length ≤ 60) (h0 : 0 < m) (h1 : m.natAbs.log2 < 9000) : ∃ v cells' st', cells'.length ≤ 60 ∧ 0 ≤ v ∧ v < m ∧ M__law_draw [.ref 1, .int m] (hs cells st R) = some (.int v, hs cells' st' R) := by
  obtain ⟨c1, hl, hw⟩ := wh_draw (R := R) (st := st) (m := m) (o := none) cells.length cells (Nat.le_refl _)
  have hw := mWhile_of hw
  have hd : ∀ (i : Int) (S : Store), vDivW (.int i) (.int m) S = some (.int (i.fdiv m), S) := fun i S => v_divW S i m h0 h1
  have hm0 : ¬ m = 0 := by omega
  have fin : ∀ (v : Int) c2 s2, c2.length ≤ 60 → runB N__law_draw m__law_draw [.ref 1, .int m] (hs cells st R) = some (.int v, hs c2 s2 R) → 0 ≤ v → v < m →
      ∃ v cells' st', cells'.length ≤ 60 ∧ 0 ≤ v ∧ v < m ∧ M__law_draw [.ref 1, .int m] (hs cells st R) = some (.int v, hs cells' st' R) := fun v c2 s2 hc2 hr h2 h3 =>
    ⟨v, c2, s2, hc2, h2, h3, gen_id0 hr rfl (w _ _) refLt_int⟩
  cases c1 with
  | nil =>
    obtain ⟨p1, p2⟩ := fm_pos (v := ((st * 48271 + 17).fmod 2147483647).fdiv 32) h0
    refine fin _ [] ((st * 48271 + 17).fmod 2147483647) (by simp) ?_ p1 p2
    have e := v_nil (S := hs [] st R) (r := 0) (xs := []) true rfl
    have hcm : CMul st 48271 := .inr (by decide)
    have hd32 : ∀ (i : Int) (S : Store), vDivW (.int i) (.int 32) S = some (.int (i.fdiv 32), S) := fun i S => v_divW S i 32 (by decide) (by decide)
    have e21 : ixN (0 + 1 + 1) 1 = some 1 := rfl
    unfold runB m__law_draw
    simp [startE_eq, N__law_draw, hw]
    simp [hs] at e ⊢
    simp [e, hcm, hd32, hm0, ix21]
  | cons x xs =>
    obtain ⟨y, hy⟩ : ∃ y, (x :: xs).getLast? = some y := ⟨(x :: xs).getLast (by simp), List.getLast?_eq_some_getLast (by simp)⟩
    obtain ⟨p1, p2⟩ := fm_pos (v := y) h0
    refine fin _ ((x :: xs).dropLast ++ [y.fdiv m]) st (by simp at hl ⊢; omega) ?_ p1 p2
    have e := v_nil (S := hs (x :: xs) st R) (r := 0) (xs := x :: xs) true rfl
    have hy2 : ((x :: xs).map Val.int)[((x :: xs).map Val.int).length - 1]? = some (.int y) := by
      rw [← List.getLast?_eq_getElem?, List.getLast?_map, hy]
      rfl
    have hz : xs.length < sizeLine := by rw [sizeLine_eq]; simp at hl; omega
    unfold runB m__law_draw
    simp [startE_eq, N__law_draw, hw]
    simp [hs] at e hy2 ⊢
    simp [e, hd, hm0, hy2, hz]
/-- what may be picked -/
theorem call_pick {R : Store} {cells : List Int} {st : Int} {l : List Val} (w : WfR R) (hc : cells.length ≤ 60) (h0 : 0 < l.length) (h1 : l.length < 1073741824) (hr : refLtL 0 l = true) :
    ∃ x cells' st', cells'.length ≤ 60 ∧ x ∈ l ∧ M__law_pick [.ref 1, .fro l] (hs cells st R) = some (x, hs cells' st' R) := by
  obtain ⟨v, c2, s2, hc2, p1, p2, hd⟩ := call_draw (R := R) (cells := cells) (st := st) (m := (l.length : Int)) w hc (by omega) (small_log (by omega) (by omega))
  obtain ⟨k, rfl⟩ : ∃ k : Nat, v = (k : Int) := ⟨v.toNat, by omega⟩
  have hk : k < l.length := by omega
  have hx : refLt (hs c2 s2 R).length l[k] = true := refLt_le (Nat.zero_le _) _ (refLtL_all hr _ (List.getElem_mem hk))
  refine ⟨l[k], c2, s2, hc2, List.getElem_mem hk, gen_id0 ?_ rfl (w _ _) hx⟩
  unfold runB m__law_pick
  simp [startE_eq, N__law_pick, hd, hk]
theorem call_pickS {R : Store} {cells : List Int} {st : Int} {z : List Nat} (w : WfR R) (hc : cells.length ≤ 60) (h0 : 0 < z.length) (h1 : z.length < 10000) :
    ∃ c cells' st', cells'.length ≤ 60 ∧ c ∈ z ∧ M__law_pick [.ref 1, .str (sL z)] (hs cells st R) = some (.str (sL [c]), hs cells' st' R) := by
  obtain ⟨v, c2, s2, hc2, p1, p2, hd⟩ := call_draw (R := R) (cells := cells) (st := st) (m := (z.length : Int)) w hc (by omega) (small_log (by omega) (by omega))
  obtain ⟨k, rfl⟩ : ∃ k : Nat, v = (k : Int) := ⟨v.toNat, by omega⟩
  have hk : k < z.length := by omega
  have hz : z.length ≤ sizeLine := by rw [sizeLine_eq]; omega
  refine ⟨z[k], c2, s2, hc2, List.getElem_mem hk, gen_id0 ?_ rfl (w _ _) refLt_str⟩
  unfold runB m__law_pick
  simp [startE_eq, N__law_pick, hd, hk, hz, sign_sL]
end T17
namespace T17
open PySem PySem.Spec PyProof.Rows L2 Fx
/-! ### rows of ints as values -/
def tI (l : List Int) : Val := .tup (l.map Val.int)
def tR (L : List (List Int)) : Val := .tup (L.map tI)
theorem refLt_tI {n : Nat} (l : List Int) : refLt n (tI l) = true := by unfold tI; simp
theorem refLt_tR {n : Nat} (L : List (List Int)) : refLt n (tR L) = true := by unfold tR; rw [refLt_tup]; exact refLtL_map refLt_tI L
theorem lc_map2 {α β : Type} {g : MG} {m : ME} {env : VEnv} {S : Store} (v : α → Val) (u : β → Val) (h : α → β) (xs : List α) (q : ∀ x ∈ xs, ∃ env1, g (v x) env S = some (env1, S) ∧ m env1 S = some (u (h x), S)) : lcL g mYes m env (xs.map v) S = some ((xs.map h).map u, S) := by
  rw [lc_map v (fun x => u (h x)) xs q, List.map_map]
  rfl
theorem lstRg_of {c : Bool} {e : ME} {env : VEnv} {S S' : Store} {n : Nat} (hn : n ≤ 1000000) (h : e env S = some (.int (n : Int), S')) : mLstRg1 c e env S = some (mk c ((List.range n).map fun i => Val.int (i : Nat)) S') := by
  unfold mLstRg1
  rw [h, bnd_ok]
  have ok : RgOk 0 (n : Int) := by
    obtain ⟨h1, h2⟩ := in62 hn
    obtain ⟨h3, h4⟩ := in62 (m := 0) (by omega)
    exact ⟨h3, h4, h1, h2, by omega⟩
  dsimp only
  rw [if_pos ok, show ((n : Int) - 0).toNat = n by omega, rangeV_nat]
theorem ix_tI {l : List Int} {k : Nat} {S : Store} (h : k < l.length) : vIx (tI l) (.int (k : Int)) S = some (.int (l.getD k 0), S) := by
  unfold tI
  rw [v_ixT, List.getElem?_map, List.getElem?_eq_getElem h, List.getD_eq_getElem?_getD, List.getElem?_eq_getElem h]
  rfl
theorem ix_tR {L : List (List Int)} {k : Nat} {S : Store} (h : k < L.length) : vIx (tR L) (.int (k : Int)) S = some (tI (L.getD k []), S) := by
  unfold tR
  rw [v_ixT, List.getElem?_map, List.getElem?_eq_getElem h, List.getD_eq_getElem?_getD, List.getElem?_eq_getElem h]
  rfl
theorem len_tI {l : List Int} {S : Store} : vLen [tI l] S = some (.int (l.length : Nat), S) := by
  unfold tI
  rw [v_lenT, List.length_map]
theorem len_tR {L : List (List Int)} {S : Store} : vLen [tR L] S = some (.int (L.length : Nat), S) := by
  unfold tR
  rw [v_lenT, List.length_map]
def least (ns : List Int) : Int := (minI ns).getD 0
def most (ns : List Int) : Int := (maxI ns).getD 0
theorem minI_some {ns : List Int} (h : ns ≠ []) : minI ns = some (least ns) := by
  cases ns with
  | nil => exact absurd rfl h
  | cons n ns => rfl
theorem maxI_some {ns : List Int} (h : ns ≠ []) : maxI ns = some (most ns) := by
  cases ns with
  | nil => exact absurd rfl h
  | cons n ns => rfl
theorem least_mem {ns : List Int} (h : ns ≠ []) : least ns ∈ ns := (minI_spec ns _ (minI_some h)).1
theorem least_le {ns : List Int} {x : Int} (h : x ∈ ns) : least ns ≤ x := (minI_spec ns _ (minI_some (List.ne_nil_of_mem h))).2 x h
theorem most_mem {ns : List Int} (h : ns ≠ []) : most ns ∈ ns := (maxI_spec ns _ (maxI_some h)).1
theorem le_most {ns : List Int} {x : Int} (h : x ∈ ns) : x ≤ most ns := (maxI_spec ns _ (maxI_some (List.ne_nil_of_mem h))).2 x h
/-- the rows with the greatest entries that all settings keep -/
def hullE (L : List (List Int)) (a t : Nat) : Int := least (L.map fun s => s.getD t 0 - s.getD a 0)
def hull (L : List (List Int)) (n : Nat) : List (List Int) := (List.range n).map fun a => (List.range n).map fun t => hullE L a t
theorem hull_len (L : List (List Int)) (n : Nat) : (hull L n).length = n := by unfold hull; simp
theorem run_hull {L : List (List Int)} {n : Nat} {S : Store} (hL : L ≠ []) (hn : ∀ s ∈ L, s.length = n) (hz : n ≤ 1000) (hz2 : L.length ≤ 1000) : runB N_hull_rows m_hull_rows [tR L] S = some (tR (hull L n), S) := by
  have sz : ∀ k, k ≤ 1000 → k ≤ sizeLine := fun k h => by rw [sizeLine_eq]; omega
  have h0 : (L.getD 0 []).length = n := by
    cases L with
    | nil => exact absurd rfl hL
    | cons s L => exact hn s (by simp)
  have pos : 0 < L.length := List.length_pos_iff.mpr hL
  have inner : ∀ (a t : Nat) (o : Option Val), a < n → t < n → lcL (gN 4) mYes (mBin vSub (mBin vIx (mVar 4) (mVar 3)) (mBin vIx (mVar 4) (mVar 2))) [some (tR L), some (.fro ((List.range n).map fun i => Val.int (i : Nat))), some (.int (a : Int)), some (.int (t : Int)), o] (L.map tI) S = some ((L.map fun s => s.getD t 0 - s.getD a 0).map Val.int, S) := fun a t o ha ht =>
    lc_map2 tI Val.int (fun s => s.getD t 0 - s.getD a 0) L fun s hs => by
      have ls := hn s hs
      refine ⟨_, s_gn .., ?_⟩
      simp [ix_tI, ls, ha, ht]
  have mid : ∀ (a : Nat) (o o2 : Option Val), a < n → lcL (gN 3) mYes (mCall vMin (mCons (mLc false [4] (mItems (mVar 0)) (gN 4) (mYes) (mBin vSub (mBin vIx (mVar 4) (mVar 3)) (mBin vIx (mVar 4) (mVar 2)))) (mNil))) [some (tR L), some (.fro ((List.range n).map fun i => Val.int (i : Nat))), some (.int (a : Int)), o, o2] ((List.range n).map fun i => Val.int (i : Nat)) S = some (((List.range n).map fun t => hullE L a t).map Val.int, S) := fun a o o2 ha =>
    lc_map2 (fun i : Nat => Val.int (i : Nat)) Val.int (fun t => hullE L a t) (List.range n) fun t ht => by
      have ht' := List.mem_range.mp ht
      refine ⟨_, s_gn .., ?_⟩
      have i := inner a t none ha ht'
      have ne : (L.map fun s => s.getD t 0 - s.getD a 0) ≠ [] := by simpa using hL
      have m := minI_some ne
      have lz := sz L.length hz2
      generalize hq : (L.map fun s => s.getD t 0 - s.getD a 0) = ns at i m
      have hle : ns.length ≤ sizeLine := by rw [← hq, List.length_map]; exact lz
      have e : hullE L a t = least ns := by unfold hullE; rw [hq]
      simp [tR, wipeE] at i ⊢
      simp [i, m, hle, e]
  have outer : ∀ (o o2 o3 : Option Val), lcL (gN 2) mYes (mCall vTuple (mCons (mLc false [3] (mItems (mVar 1)) (gN 3) (mYes) (mCall vMin (mCons (mLc false [4] (mItems (mVar 0)) (gN 4) (mYes) (mBin vSub (mBin vIx (mVar 4) (mVar 3)) (mBin vIx (mVar 4) (mVar 2)))) (mNil)))) (mNil))) [some (tR L), some (.fro ((List.range n).map fun i => Val.int (i : Nat))), o, o2, o3] ((List.range n).map fun i => Val.int (i : Nat)) S = some ((hull L n).map tI, S) := fun o o2 o3 =>
    lc_map2 (fun i : Nat => Val.int (i : Nat)) tI (fun a => (List.range n).map fun t => hullE L a t) (List.range n) fun a ha => by
      have ha' := List.mem_range.mp ha
      refine ⟨_, s_gn .., ?_⟩
      have i := mid a none o3 ha'
      have lz := sz n hz
      generalize hq : ((List.range n).map fun t => hullE L a t) = ns at i
      have hle : ns.length ≤ sizeLine := by rw [← hq, List.length_map, List.length_range]; exact lz
      simp [wipeE] at i ⊢
      simp [i, hle, tI]
  unfold runB m_hull_rows
  rw [show startE N_hull_rows [tR L] = [some (tR L), none, none, none, none] from rfl]
  have lr : mLstRg1 false (mCall vLen (mCons (mBin vIx (mVar 0) (mC (.int 0))) (mNil))) [some (tR L), none, none, none, none] S = some (mk false ((List.range n).map fun i => Val.int (i : Nat)) S) := by
    refine lstRg_of (S' := S) (by omega) ?_
    have e := ix_tR (S := S) pos
    have e2 : vIx (tR L) (.int 0) S = some (tI (L.getD 0 []), S) := e
    simp [e2, len_tI]
    simp at h0
    omega
  have out := outer none none none
  have lz := sz n hz
  have hle : ((hull L n).map tI).length ≤ sizeLine := by rw [List.length_map, hull_len]; exact lz
  rw [s_then, s_set, lr, bnd_ok]
  simp [wipeE] at out ⊢
  simp [out, hull_len, lz]
  rfl
theorem call_hull {L : List (List Int)} {n : Nat} {S : Store} (w : Wf S) (hL : L ≠ []) (hn : ∀ s ∈ L, s.length = n) (hz : n ≤ 1000) (hz2 : L.length ≤ 1000) : M_hull_rows [tR L] S = some (tR (hull L n), S) :=
  gen_id0 (run_hull hL hn hz hz2) rfl w (refLt_tR _)
/-- the settings as a tuple, or as a list that may change -/
structure Sts (d : Val) (L : List (List Int)) (S : Store) (gd : Gd) : Prop where
  ix : vIx d (.int 0) S = some (tI (L.getD 0 []), S)
  it : ∀ (o1 o2 o3 o4 : Option Val), mItemsG (mVar 0) [some d, o1, o2, o3, o4] S = some ((L.map tI, gd), S)
  ok : OkG gd S
theorem Sts.tup {L : List (List Int)} {S : Store} (hL : L ≠ []) : Sts (tR L) L S [] :=
  ⟨ix_tR (List.length_pos_iff.mpr hL), fun _ _ _ _ => by unfold tR; simp, fun p hp => nomatch hp⟩
theorem Sts.ref {L : List (List Int)} {S : Store} {r : Nat} (hL : L ≠ []) (h : S[r]? = some (.lst (L.map tI))) : Sts (.ref r) L S [(r, L.map tI)] := by
  have pos : 0 < L.length := List.length_pos_iff.mpr hL
  refine ⟨?_, fun o1 o2 o3 o4 => ?_, fun p hp => ?_⟩
  · rw [v_ixR0, lst_ref, h]
    simp only [Option.bind_some]
    rw [List.getElem?_map, List.getElem?_eq_getElem pos, List.getD_eq_getElem?_getD, List.getElem?_eq_getElem pos]
    rfl
  · rw [s_itemsG, s_var]
    simp only [List.getElem?_cons_zero, bnd_ok]
    rw [lstG_ref _ _ h]
    rfl
  · rw [List.mem_singleton.mp hp]
    exact h
theorem run_lhull {L : List (List Int)} {n : Nat} {S : Store} {d : Val} {gd : Gd} (Z : Sts d L S gd) (hL : L ≠ []) (hn : ∀ s ∈ L, s.length = n) (hz : n ≤ 1000) (hz2 : L.length ≤ 1000) : runB N__law_hull m__law_hull [d] S = some (tR (hull L n), S) := by
  have sz : ∀ k, k ≤ 1000 → k ≤ sizeLine := fun k h => by rw [sizeLine_eq]; omega
  have h0 : (L.getD 0 []).length = n := by
    cases L with
    | nil => exact absurd rfl hL
    | cons s L => exact hn s (by simp)
  have inner : ∀ (a t : Nat) (o : Option Val), a < n → t < n → lcL (gdG gd (gN 4)) mYes (mBin vSub (mBin vIx (mVar 4) (mVar 3)) (mBin vIx (mVar 4) (mVar 2))) [some d, some (.fro ((List.range n).map fun i => Val.int (i : Nat))), some (.int (a : Int)), some (.int (t : Int)), o] (L.map tI) S = some ((L.map fun s => s.getD t 0 - s.getD a 0).map Val.int, S) := fun a t o ha ht =>
    lc_map2 tI Val.int (fun s => s.getD t 0 - s.getD a 0) L fun s hs => by
      have ls := hn s hs
      refine ⟨_, by rw [gdG_of Z.ok, s_gn], ?_⟩
      simp [ix_tI, ls, ha, ht]
  have mid : ∀ (a : Nat) (o o2 : Option Val), a < n → lcL (gN 3) mYes (mCall vMin (mCons (mLcG false [4] (mItemsG (mVar 0)) (gN 4) (mYes) (mBin vSub (mBin vIx (mVar 4) (mVar 3)) (mBin vIx (mVar 4) (mVar 2)))) (mNil))) [some d, some (.fro ((List.range n).map fun i => Val.int (i : Nat))), some (.int (a : Int)), o, o2] ((List.range n).map fun i => Val.int (i : Nat)) S = some (((List.range n).map fun t => hullE L a t).map Val.int, S) := fun a o o2 ha =>
    lc_map2 (fun i : Nat => Val.int (i : Nat)) Val.int (fun t => hullE L a t) (List.range n) fun t ht => by
      have ht' := List.mem_range.mp ht
      refine ⟨_, s_gn .., ?_⟩
      have i := inner a t none ha ht'
      have ne : (L.map fun s => s.getD t 0 - s.getD a 0) ≠ [] := by simpa using hL
      have m := minI_some ne
      have lz := sz L.length hz2
      have e : hullE L a t = least (L.map fun s => s.getD t 0 - s.getD a 0) := rfl
      rw [e]
      generalize hq : (L.map fun s => s.getD t 0 - s.getD a 0) = ns at i m
      have hle : ns.length ≤ sizeLine := by rw [← hq, List.length_map]; exact lz
      simp only [List.set_cons_succ, List.set_cons_zero]
      rw [s_call, s_cons, s_lcG, Z.it, bnd_ok]
      simp only [wipeE, List.set_cons_succ, List.set_cons_zero]
      rw [i, bnd_ok, if_pos ⟨by rw [List.length_map]; exact hle, Z.ok⟩]
      simp [m]
  have outer : ∀ (o o2 o3 : Option Val), lcL (gN 2) mYes (mCall vTuple (mCons (mLc false [3] (mItems (mVar 1)) (gN 3) (mYes) (mCall vMin (mCons (mLcG false [4] (mItemsG (mVar 0)) (gN 4) (mYes) (mBin vSub (mBin vIx (mVar 4) (mVar 3)) (mBin vIx (mVar 4) (mVar 2)))) (mNil)))) (mNil))) [some d, some (.fro ((List.range n).map fun i => Val.int (i : Nat))), o, o2, o3] ((List.range n).map fun i => Val.int (i : Nat)) S = some ((hull L n).map tI, S) := fun o o2 o3 =>
    lc_map2 (fun i : Nat => Val.int (i : Nat)) tI (fun a => (List.range n).map fun t => hullE L a t) (List.range n) fun a ha => by
      have ha' := List.mem_range.mp ha
      refine ⟨_, s_gn .., ?_⟩
      have i := mid a none o3 ha'
      have lz := sz n hz
      generalize hq : ((List.range n).map fun t => hullE L a t) = ns at i
      have hle : ns.length ≤ sizeLine := by rw [← hq, List.length_map, List.length_range]; exact lz
      have it : ∀ S, mItems (mVar 1) [some d, some (.fro ((List.range n).map fun i => Val.int (i : Nat))), some (.int (a : Int)), o2, o3] S = some ((List.range n).map fun i => Val.int (i : Nat), S) := fun S => by simp
      simp only [List.set_cons_succ, List.set_cons_zero]
      rw [s_call, s_cons, s_lc, it, bnd_ok]
      simp only [wipeE, List.set_cons_succ, List.set_cons_zero]
      rw [i, bnd_ok, if_pos (by rw [List.length_map]; exact hle)]
      simp [tI]
  unfold runB m__law_hull
  rw [show startE N__law_hull [d] = [some d, none, none, none, none] from rfl]
  have lr : mLstRg1 false (mCall vLen (mCons (mBin vIx (mVar 0) (mC (.int 0))) (mNil))) [some d, none, none, none, none] S = some (mk false ((List.range n).map fun i => Val.int (i : Nat)) S) := by
    refine lstRg_of (S' := S) (by omega) ?_
    have e2 := Z.ix
    have l2 := len_tI (l := L.getD 0 []) (S := S)
    rw [h0] at l2
    generalize tI (L.getD 0 []) = g0 at e2 l2
    simp [e2, l2]
  have out := outer none none none
  have lz := sz n hz
  have it : ∀ S, mItems (mVar 1) [some d, some (.fro ((List.range n).map fun i => Val.int (i : Nat))), none, none, none] S = some ((List.range n).map fun i => Val.int (i : Nat), S) := fun S => by simp
  rw [s_then, s_set, lr, bnd_ok]
  simp only [mk_f, s_gn, bnd_ok, List.set_cons_succ, List.set_cons_zero]
  rw [s_ret, s_call, s_cons, s_lc, it, bnd_ok]
  simp only [wipeE, List.set_cons_succ, List.set_cons_zero]
  rw [out, bnd_ok, if_pos (by rw [List.length_map, hull_len]; exact lz)]
  simp only [mk_f, bnd_ok, s_nil, v_tupF]
  rfl
theorem call_lhull {L : List (List Int)} {n : Nat} {S : Store} (w : Wf S) (hL : L ≠ []) (hn : ∀ s ∈ L, s.length = n) (hz : n ≤ 1000) (hz2 : L.length ≤ 1000) : M__law_hull [tR L] S = some (tR (hull L n), S) :=
  gen_id0 (run_lhull (Sts.tup hL) hL hn hz hz2) rfl w (refLt_tR _)
theorem call_lhullR {L : List (List Int)} {n r : Nat} {S : Store} (w : Wf S) (hL : L ≠ []) (hn : ∀ s ∈ L, s.length = n) (hz : n ≤ 1000) (hz2 : L.length ≤ 1000) (h : S[r]? = some (.lst (L.map tI))) : M__law_hull [.ref r] S = some (tR (hull L n), S) :=
  gen_id0 (run_lhull (Sts.ref hL h) hL hn hz hz2) rfl w (refLt_tR _)
/-! ### keeping rows -/
theorem call_isint {i : Int} {S : Store} (w : Wf S) : M_is_integer [.int i] S = some (.bl true, S) := by
  refine gen_id0 ?_ rfl w refLt_bl
  unfold runB m_is_integer
  rw [show startE N_is_integer [Val.int i] = [some (.int i)] from rfl]
  simp
theorem call_lisint {i : Int} {S : Store} (w : Wf S) : M__law_is_integer [.int i] S = some (.bl true, S) := by
  refine gen_id0 ?_ rfl w refLt_bl
  unfold runB m__law_is_integer
  rw [show startE N__law_is_integer [Val.int i] = [some (.int i)] from rfl]
  simp
/-- one row: its place, its entries -/
def keepsRow (s : List Int) (a : Nat) (row : List Int) : Bool := (List.range row.length).all fun t => decide (row.getD t 0 ≤ s.getD t 0 - s.getD a 0)
def keeps (R : List (List Int)) (s : List Int) : Bool := (List.range R.length).all fun a => keepsRow s a (R.getD a [])
theorem mapIdx_tI (l : List Int) : (l.map Val.int).mapIdx (fun i x => Val.tup [.int (i : Nat), x]) = (List.range l.length).map fun t => Val.tup [.int (t : Nat), .int (l.getD t 0)] := by
  apply List.ext_getElem
  · simp
  · intro i h1 h2
    simp at h1
    simp [List.getD_eq_getElem?_getD, h1]
theorem mapIdx_tR (L : List (List Int)) : (L.map tI).mapIdx (fun i x => Val.tup [.int (i : Nat), x]) = (List.range L.length).map fun t => Val.tup [.int (t : Nat), tI (L.getD t [])] := by
  apply List.ext_getElem
  · simp
  · intro i h1 h2
    simp at h1
    simp [List.getD_eq_getElem?_getD, h1]
theorem enum_tI {ms : MA} {env : VEnv} {S S' : Store} {l : List Int} (h : ms env S = some ([tI l], S')) : mEnumA ms env S = some ((List.range l.length).map fun t => Val.tup [.int (t : Nat), .int (l.getD t 0)], S') := by
  rw [s_enumA, h, bnd_ok, ← mapIdx_tI]
  rfl
theorem enum_tR {ms : MA} {env : VEnv} {S S' : Store} {L : List (List Int)} (h : ms env S = some ([tR L], S')) : mEnumA ms env S = some ((List.range L.length).map fun t => Val.tup [.int (t : Nat), tI (L.getD t [])], S') := by
  rw [s_enumA, h, bnd_ok, ← mapIdx_tR]
  rfl
theorem run_keeps {R : List (List Int)} {s : List Int} {S : Store} (hR : ∀ r ∈ R, r.length = s.length) (hl : R.length = s.length) (hz : s.length ≤ 1000) : runB N__law_keeps m__law_keeps [tR R, tI s] S = some (.bl (keeps R s), S) := by
  have sz : ∀ k, k ≤ 1000 → k ≤ sizeLine := fun k h => by rw [sizeLine_eq]; omega
  have inner : ∀ (a : Nat) (o4 o5 : Option Val), a < s.length → lcL (gT 2 (gCons' (gN 4) (gCons' (gN 5) (gNil')))) (mYes) (mBin vGe (mBin vSub (mBin vIx (mVar 1) (mVar 4)) (mBin vIx (mVar 1) (mVar 2))) (mVar 5)) [some (tR R), some (tI s), some (.int (a : Int)), some (tI (R.getD a [])), o4, o5]
      ((List.range (R.getD a []).length).map fun t => Val.tup [.int (t : Nat), .int ((R.getD a []).getD t 0)]) S = some (((List.range (R.getD a []).length).map fun t => decide ((R.getD a []).getD t 0 ≤ s.getD t 0 - s.getD a 0)).map Val.bl, S) := fun a o4 o5 ha =>
    lc_map2 (fun t : Nat => Val.tup [.int (t : Nat), .int ((R.getD a []).getD t 0)]) Val.bl (fun t => decide ((R.getD a []).getD t 0 ≤ s.getD t 0 - s.getD a 0)) _ fun t ht => by
      have hr : (R.getD a []).length = s.length := by
        rw [List.getD_eq_getElem?_getD, List.getElem?_eq_getElem (by omega)]
        exact hR _ (List.getElem_mem (by omega))
      rw [List.mem_range, hr] at ht
      refine ⟨_, by rw [s_gt, if_pos (by rfl), s_gcons, s_gn, bnd_ok, s_gcons, s_gn, bnd_ok, s_gnil], ?_⟩
      simp [ix_tI, ht, ha]
  have loop : ∀ (as : List Nat) (o2 o3 o4 o5 : Option Val), (∀ a ∈ as, a < s.length) → ∃ o2' o3' o4' o5', forL (gT 2 (gCons' (gN 2) (gCons' (gN 3) (gNil')))) (mWhen (mNot (mTru (mCall vAll (mCons (mLc false [4, 5] (mEnumA (mCons (mVar 3) (mNil))) (gT 2 (gCons' (gN 4) (gCons' (gN 5) (gNil')))) (mYes) (mBin vGe (mBin vSub (mBin vIx (mVar 1) (mVar 4)) (mBin vIx (mVar 1) (mVar 2))) (mVar 5))) (mNil))))) (mRet (mC (.bl false))) (mSkip))
      (as.map fun t => Val.tup [.int (t : Nat), tI (R.getD t [])]) [some (tR R), some (tI s), o2, o3, o4, o5] S = some (if as.all (fun a => keepsRow s a (R.getD a [])) = true then .nx [some (tR R), some (tI s), o2', o3', o4', o5'] else .rt (.bl false), S) := by
    intro as
    induction as with
    | nil => intro o2 o3 o4 o5 _; exact ⟨o2, o3, o4, o5, rfl⟩
    | cons a as ih =>
      intro o2 o3 o4 o5 h
      have ha := h a (by simp)
      obtain ⟨p2, p3, p4, p5, ih⟩ := ih (some (.int (a : Int))) (some (tI (R.getD a []))) o4 o5 fun b hb => h b (by simp [hb])
      refine ⟨p2, p3, p4, p5, ?_⟩
      have i := inner a none none ha
      have hr : (R.getD a []).length = s.length := by
        rw [List.getD_eq_getElem?_getD, List.getElem?_eq_getElem (by omega)]
        exact hR _ (List.getElem_mem (by omega))
      have lz := sz s.length hz
      have en : ∀ o4 o5, mEnumA (mCons (mVar 3) (mNil)) [some (tR R), some (tI s), some (.int (a : Int)), some (tI (R.getD a [])), o4, o5] S = _ := fun o4 o5 => enum_tI (l := R.getD a []) (S' := S) (by simp)
      rw [List.map_cons, for_cons, s_gt, if_pos (by rfl), s_gcons, s_gn, bnd_ok, s_gcons, s_gn, bnd_ok, s_gnil, bnd_ok]
      simp only [List.set_cons_succ, List.set_cons_zero]
      have hk : keepsRow s a (R.getD a []) = ((List.range (R.getD a []).length).map fun t => decide ((R.getD a []).getD t 0 ≤ s.getD t 0 - s.getD a 0)).all (fun b => b) := by
        unfold keepsRow
        rw [List.all_map]
        rfl
      generalize hq : ((List.range (R.getD a []).length).map fun t => decide ((R.getD a []).getD t 0 ≤ s.getD t 0 - s.getD a 0)) = bs at i hk
      have hle : bs.length ≤ sizeLine := by rw [← hq, List.length_map, List.length_range, hr]; exact lz
      rw [List.all_cons, hk]
      rw [s_when, s_not, s_tru, s_call, s_cons, s_lc, en, bnd_ok]
      simp only [wipeE, List.set_cons_succ, List.set_cons_zero]
      rw [i, bnd_ok]
      rw [if_pos (by rw [List.length_map]; exact hle)]
      simp only [mk_f, bnd_ok, s_nil, v_allF, blsOf_map, Option.map_some, truD]
      cases e : bs.all (fun b => b) with
      | true =>
        simp
        simp at ih
        exact ih
      | false => simp
  obtain ⟨o2, o3, o4, o5, h⟩ := loop (List.range R.length) none none none none fun a ha => by rw [List.mem_range] at ha; omega
  unfold runB m__law_keeps
  rw [show startE N__law_keeps [tR R, tI s] = [some (tR R), some (tI s), none, none, none, none] from rfl]
  rw [s_then, s_for, enum_tR (L := R) (S' := S) (by simp), bnd_ok, h, bnd_ok]
  unfold keeps
  cases e : (List.range R.length).all fun a => keepsRow s a (R.getD a []) with
  | true => simp
  | false => simp
theorem call_keeps {R : List (List Int)} {s : List Int} {S : Store} (w : Wf S) (hR : ∀ r ∈ R, r.length = s.length) (hl : R.length = s.length) (hz : s.length ≤ 1000) : M__law_keeps [tR R, tI s] S = some (.bl (keeps R s), S) :=
  gen_id0 (run_keeps hR hl hz) rfl w refLt_bl
end T17
namespace T17
open PySem PySem.Spec PyProof.Rows L2 Fx
theorem row_len {R : List (List Int)} {s : List Int} (hR : ∀ r ∈ R, r.length = s.length) (hl : R.length = s.length) {a : Nat} (ha : a < s.length) : (R.getD a []).length = s.length := by
  rw [List.getD_eq_getElem?_getD, List.getElem?_eq_getElem (by omega)]
  exact hR _ (List.getElem_mem (by omega))
/-- the first broken pair, or none -/
theorem run_broken {R : List (List Int)} {s : List Int} {S : Store} (hR : ∀ r ∈ R, r.length = s.length) (hl : R.length = s.length) : ∃ p q : Int, runB N_broken_pair m_broken_pair [tR R, tI s] S = some (if keeps R s = true then .non else .tup [.int p, .int q], S) := by
  have e2 : 2 ≤ sizeLine := by rw [sizeLine_eq]; decide
  have inner : ∀ (a : Nat) (ts : List Nat) (o4 o5 : Option Val), a < s.length → (∀ t ∈ ts, t < s.length) → ∃ (p q : Int) (o4' o5' : Option Val), forL (gT 2 (gCons' (gN 4) (gCons' (gN 5) (gNil')))) (mWhen (mAnd (mTest (mBin (vIs true) (mVar 5) (mC .non))) (mTest (mBin vLt (mBin vSub (mBin vIx (mVar 1) (mVar 4)) (mBin vIx (mVar 1) (mVar 2))) (mVar 5)))) (mRet (mTup (mCons (mVar 2) (mCons (mVar 4) (mNil))))) (mSkip))
      (ts.map fun t => Val.tup [.int (t : Nat), .int ((R.getD a []).getD t 0)]) [some (tR R), some (tI s), some (.int (a : Int)), some (tI (R.getD a [])), o4, o5] S =
      some (if ts.all (fun t => decide ((R.getD a []).getD t 0 ≤ s.getD t 0 - s.getD a 0)) = true then .nx [some (tR R), some (tI s), some (.int (a : Int)), some (tI (R.getD a [])), o4', o5'] else .rt (.tup [.int p, .int q]), S) := by
    intro a ts
    induction ts with
    | nil => intro o4 o5 _ _; exact ⟨0, 0, o4, o5, rfl⟩
    | cons t ts ih =>
      intro o4 o5 ha h
      have ht := h t (by simp)
      obtain ⟨p, q, p4, p5, ih⟩ := ih (some (.int (t : Int))) (some (.int ((R.getD a []).getD t 0))) ha fun b hb => h b (by simp [hb])
      rw [List.map_cons, for_cons, s_gt, if_pos (by rfl), s_gcons, s_gn, bnd_ok, s_gcons, s_gn, bnd_ok, s_gnil, bnd_ok]
      simp only [List.set_cons_succ, List.set_cons_zero]
      have i1 := ix_tI (S := S) ht
      have i2 := ix_tI (S := S) ha
      generalize hx : (R.getD a []).getD t 0 = x at ih ⊢
      generalize hy : s.getD t 0 = y at i1
      generalize hw : s.getD a 0 = w at i2 ih ⊢
      by_cases c : x ≤ y - w
      · refine ⟨p, q, p4, p5, ?_⟩
        have c' : ¬ (y - w < x) := by omega
        rw [List.all_cons, hx, hy, decide_eq_true c, Bool.true_and, ← ih]
        simp [i1, i2, c']
      · refine ⟨a, t, o4, o5, ?_⟩
        have c' : y - w < x := by omega
        rw [List.all_cons, hx, hy, decide_eq_false c, Bool.false_and, if_neg (by decide)]
        simp [i1, i2, c', e2]
  have loop : ∀ (as : List Nat) (o2 o3 o4 o5 : Option Val), (∀ a ∈ as, a < s.length) → ∃ (p q : Int) (o2' o3' o4' o5' : Option Val), forL (gT 2 (gCons' (gN 2) (gCons' (gN 3) (gNil')))) (mFor (mEnumA (mCons (mVar 3) (mNil))) (gT 2 (gCons' (gN 4) (gCons' (gN 5) (gNil')))) (mWhen (mAnd (mTest (mBin (vIs true) (mVar 5) (mC .non))) (mTest (mBin vLt (mBin vSub (mBin vIx (mVar 1) (mVar 4)) (mBin vIx (mVar 1) (mVar 2))) (mVar 5)))) (mRet (mTup (mCons (mVar 2) (mCons (mVar 4) (mNil))))) (mSkip)))
      (as.map fun t => Val.tup [.int (t : Nat), tI (R.getD t [])]) [some (tR R), some (tI s), o2, o3, o4, o5] S = some (if as.all (fun a => keepsRow s a (R.getD a [])) = true then .nx [some (tR R), some (tI s), o2', o3', o4', o5'] else .rt (.tup [.int p, .int q]), S) := by
    intro as
    induction as with
    | nil => intro o2 o3 o4 o5 _; exact ⟨0, 0, o2, o3, o4, o5, rfl⟩
    | cons a as ih =>
      intro o2 o3 o4 o5 h
      have ha := h a (by simp)
      obtain ⟨p', q', p4, p5, i⟩ := inner a (List.range (R.getD a []).length) o4 o5 ha fun t ht => by rw [List.mem_range, row_len hR hl ha] at ht; exact ht
      obtain ⟨p, q, r2, r3, r4, r5, ih⟩ := ih (some (.int (a : Int))) (some (tI (R.getD a []))) p4 p5 fun b hb => h b (by simp [hb])
      rw [List.map_cons, for_cons, s_gt, if_pos (by rfl), s_gcons, s_gn, bnd_ok, s_gcons, s_gn, bnd_ok, s_gnil, bnd_ok]
      simp only [List.set_cons_succ, List.set_cons_zero]
      rw [s_for, enum_tI (l := R.getD a []) (S' := S) (by simp), bnd_ok, i, bnd_ok, List.all_cons]
      have hk : keepsRow s a (R.getD a []) = (List.range (R.getD a []).length).all fun t => decide ((R.getD a []).getD t 0 ≤ s.getD t 0 - s.getD a 0) := rfl
      rw [hk]
      cases e : (List.range (R.getD a []).length).all fun t => decide ((R.getD a []).getD t 0 ≤ s.getD t 0 - s.getD a 0) with
      | true => exact ⟨p, q, r2, r3, r4, r5, by simpa using ih⟩
      | false => exact ⟨p', q', o2, o3, o4, o5, by simp⟩
  obtain ⟨p, q, o2, o3, o4, o5, h⟩ := loop (List.range R.length) none none none none fun a ha => by rw [List.mem_range] at ha; omega
  refine ⟨p, q, ?_⟩
  unfold runB m_broken_pair
  rw [show startE N_broken_pair [tR R, tI s] = [some (tR R), some (tI s), none, none, none, none] from rfl]
  rw [s_then, s_for, enum_tR (L := R) (S' := S) (by simp), bnd_ok, h, bnd_ok]
  have hk : keeps R s = (List.range R.length).all fun a => keepsRow s a (R.getD a []) := rfl
  rw [hk]
  cases e : (List.range R.length).all fun a => keepsRow s a (R.getD a []) with
  | true => simp
  | false => simp
theorem call_broken {R : List (List Int)} {s : List Int} {S : Store} (w : Wf S) (hR : ∀ r ∈ R, r.length = s.length) (hl : R.length = s.length) : ∃ p q : Int, M_broken_pair [tR R, tI s] S = some (if keeps R s = true then .non else .tup [.int p, .int q], S) := by
  obtain ⟨p, q, h⟩ := run_broken (S := S) hR hl
  exact ⟨p, q, gen_id0 h rfl w (by split <;> simp)⟩
theorem call_setting {R : List (List Int)} {s : List Int} {S : Store} (w : Wf S) (hR : ∀ r ∈ R, r.length = s.length) (hl : R.length = s.length) (hz : s.length ≤ 1000) : M_is_setting [tR R, tI s] S = some (.bl (keeps R s), S) := by
  have sz : ∀ k, k ≤ 1000 → k ≤ sizeLine := fun k h => by rw [sizeLine_eq]; omega
  obtain ⟨p, q, hb⟩ := call_broken w hR hl
  have hi : ∀ (o : Option Val), lcL (gN 2) mYes (mCall M_is_integer (mCons (mVar 2) (mNil))) [some (tR R), some (tI s), o] (s.map Val.int) S = some ((s.map fun _ => true).map Val.bl, S) := fun o =>
    lc_map2 Val.int Val.bl (fun _ => true) s fun i _ => by
      refine ⟨_, s_gn .., ?_⟩
      simp [call_isint w]
  have all_t : ((s.map fun _ => true).all fun b => b) = true := by simp
  refine gen_id0 ?_ rfl w refLt_bl
  unfold runB m_is_setting
  rw [show startE N_is_setting [tR R, tI s] = [some (tR R), some (tI s), none] from rfl]
  have i := hi none
  generalize hq : (s.map fun _ => true) = bs at i all_t
  have hle : bs.length ≤ sizeLine := by rw [← hq, List.length_map]; exact sz _ hz
  have it : ∀ S, mItems (mVar 1) [some (tR R), some (tI s), none] S = some (s.map Val.int, S) := fun S => by unfold tI; simp
  have isT : vIsi [tI s, .raw (.ty "tuple")] S = some (.bl true, S) := by unfold tI; exact isi_tup ..
  have ln : (vEqN true (.int (s.length : Nat)) (.int (R.length : Nat)) S) = some (.bl false, S) := by rw [hl]; simp
  have lc : mLc false [2] (mItems (mVar 1)) (gN 2) mYes (mCall M_is_integer (mCons (mVar 2) mNil)) [some (tR R), some (tI s), none] S = some (.fro (bs.map Val.bl), S) := by
    rw [s_lc, it, bnd_ok]
    simp only [wipeE, List.set_cons_succ, List.set_cons_zero]
    rw [i, bnd_ok, if_pos (by rw [List.length_map]; exact hle)]
    rfl
  have l1 := len_tI (l := s) (S := S)
  have l2 := len_tR (L := R) (S := S)
  rw [hl] at l2
  generalize tR R = r at *
  generalize tI s = v at *
  cases e : keeps R s with
  | true =>
    rw [e] at hb
    simp [isT, truD, l1, l2, lc, all_t, hb, -s_lc]
  | false =>
    rw [e] at hb
    simp [isT, truD, l1, l2, lc, all_t, hb, -s_lc]
/-! ### settings whose first number is 0 -/
def level (s : List Int) : List Int := s.map fun x => x - s.getD 0 0
theorem level_len (s : List Int) : (level s).length = s.length := by unfold level; simp
theorem call_level {l : List Int} {d : Val} {S : Store} (w : Wf S) (hl : l ≠ []) (hz : l.length ≤ 1000) (hd : d = tI l ∨ d = .fro (l.map Val.int)) : M__law_level [d] S = some (tI (level l), S) := by
  have sz : ∀ k, k ≤ 1000 → k ≤ sizeLine := fun k h => by rw [sizeLine_eq]; omega
  have pos : 0 < l.length := List.length_pos_iff.mpr hl
  have ix : vIx d (.int 0) S = some (.int (l.getD 0 0), S) := by
    rcases hd with rfl | rfl
    · exact ix_tI pos
    · show vIx (.fro (l.map Val.int)) (.int ((0 : Nat) : Int)) S = _
      rw [v_ixF, List.getElem?_map, List.getElem?_eq_getElem pos, List.getD_eq_getElem?_getD, List.getElem?_eq_getElem pos]
      rfl
  have it : mItems (mVar 0) [some d, none] S = some (l.map Val.int, S) := by
    rcases hd with rfl | rfl
    · unfold tI; simp
    · simp
  have i : ∀ o : Option Val, lcL (gN 1) mYes (mBin vSub (mVar 1) (mBin vIx (mVar 0) (mC (.int 0)))) [some d, o] (l.map Val.int) S = some ((level l).map Val.int, S) := fun o =>
    lc_map2 Val.int Val.int (fun x => x - l.getD 0 0) l fun x _ => by
      refine ⟨_, s_gn .., ?_⟩
      simp [ix]
  refine gen_id0 ?_ rfl w (refLt_tI _)
  unfold runB m__law_level
  rw [show startE N__law_level [d] = [some d, none] from rfl]
  rw [s_ret, s_call, s_cons, s_lc, it, bnd_ok]
  simp only [wipeE, List.set_cons_succ, List.set_cons_zero]
  rw [i, bnd_ok, if_pos (by rw [List.length_map, level_len]; exact sz _ hz)]
  simp
  rfl
end T17
namespace T17
/-! ### plain: settings as lists of ints, hulls -/
theorem keeps_iff {R : List (List Int)} {s : List Int} {n : Nat} (hR : R.length = n) (hr : ∀ a, a < n → (R.getD a []).length = n) :
    keeps R s = true ↔ ∀ a t, a < n → t < n → (R.getD a []).getD t 0 ≤ s.getD t 0 - s.getD a 0 := by
  unfold keeps keepsRow
  rw [List.all_eq_true]
  constructor
  · intro h a t ha ht
    have h1 := h a (by rw [List.mem_range, hR]; exact ha)
    rw [List.all_eq_true] at h1
    simpa using h1 t (by rw [List.mem_range, hr a ha]; exact ht)
  · intro h a ha
    rw [List.mem_range, hR] at ha
    rw [List.all_eq_true]
    intro t ht
    rw [List.mem_range, hr a ha] at ht
    simpa using h a t ha ht
theorem hull_at {L : List (List Int)} {n a t : Nat} (ha : a < n) (ht : t < n) : ((hull L n).getD a []).getD t 0 = hullE L a t := by
  unfold hull
  simp [List.getD_eq_getElem?_getD, ha, ht]
theorem hull_row {L : List (List Int)} {n a : Nat} (ha : a < n) : ((hull L n).getD a []).length = n := by
  unfold hull
  simp [List.getD_eq_getElem?_getD, ha]
theorem keeps_hull {L : List (List Int)} {s : List Int} {n : Nat} : keeps (hull L n) s = true ↔ ∀ a t, a < n → t < n → hullE L a t ≤ s.getD t 0 - s.getD a 0 := by
  rw [keeps_iff (hull_len L n) fun a ha => hull_row ha]
  constructor
  · intro h a t ha ht
    have := h a t ha ht
    rw [hull_at ha ht] at this
    exact this
  · intro h a t ha ht
    rw [hull_at ha ht]
    exact h a t ha ht
theorem hullE_le {L : List (List Int)} {s : List Int} (h : s ∈ L) (a t : Nat) : hullE L a t ≤ s.getD t 0 - s.getD a 0 := least_le (List.mem_map.mpr ⟨s, h, rfl⟩)
theorem hullE_is {L : List (List Int)} (h : L ≠ []) (a t : Nat) : ∃ s ∈ L, hullE L a t = s.getD t 0 - s.getD a 0 := by
  have := least_mem (ns := L.map fun s => s.getD t 0 - s.getD a 0) (by simpa using h)
  obtain ⟨s, hs, e⟩ := List.mem_map.mp this
  exact ⟨s, hs, e.symm⟩
theorem hull_self {L : List (List Int)} {s : List Int} {n : Nat} (h : s ∈ L) : keeps (hull L n) s = true := keeps_hull.mpr fun a t _ _ => hullE_le h a t
theorem hull_zero {L : List (List Int)} (h : L ≠ []) (a : Nat) : hullE L a a = 0 := by
  obtain ⟨s, _, e⟩ := hullE_is h a a
  omega
theorem hull_tri {L : List (List Int)} (h : L ≠ []) (a b t : Nat) : hullE L a b + hullE L b t ≤ hullE L a t := by
  obtain ⟨s, hs, e⟩ := hullE_is h a t
  have h1 := hullE_le hs a b
  have h2 := hullE_le hs b t
  omega
/-- shifted settings keep the same rows -/
theorem keeps_shift {L : List (List Int)} {s s' : List Int} {n : Nat} {c : Int} (h : ∀ t, t < n → s'.getD t 0 = s.getD t 0 + c) : keeps (hull L n) s' = keeps (hull L n) s := by
  rw [Bool.eq_iff_iff, keeps_hull, keeps_hull]
  constructor
  · intro q a t ha ht
    have := q a t ha ht
    rw [h a ha, h t ht] at this
    omega
  · intro q a t ha ht
    have := q a t ha ht
    rw [h a ha, h t ht]
    omega
end T17
namespace T17
open PySem PySem.Spec PyProof.Rows L2 Fx
@[simp] theorem ty_fro (S : Store) (l : List Val) : tyD "list" S (.fro l) = true := by
  show ((lstOf S (.fro l)).isSome && _) = true
  simp
def idxJ (ns : List Int) (m : Int) : Nat := ((ns.map V.int).findIdx? fun z => eqV z (V.int m)).getD 0
theorem idx_ints {ns : List Int} {m : Int} (h : m ∈ ns) : idxJ ns m < ns.length ∧ ns.getD (idxJ ns m) 0 = m ∧ ∀ S, vIndex (.fro (ns.map Val.int)) [.int m] S = some (.int (idxJ ns m : Nat), S) := by
  have e1 : ((ns.map Val.int).map flatTo) = ns.map V.int := by
    rw [List.map_map]
    rfl
  have e2 : (ns.map Val.int).all flatD = true := by simp [flatD]
  have e3 : ∃ j, (ns.map V.int).findIdx? (fun z => eqV z (V.int m)) = some j := by
    cases q : (ns.map V.int).findIdx? (fun z => eqV z (V.int m)) with
    | some j => exact ⟨j, rfl⟩
    | none =>
      rw [List.findIdx?_eq_none_iff] at q
      have := q (V.int m) (List.mem_map.mpr ⟨m, h, rfl⟩)
      simp [eqV] at this
  obtain ⟨j, hj⟩ := e3
  obtain ⟨h1, h2, h3⟩ := List.findIdx?_eq_some_iff_getElem.mp hj
  have h1' : j < ns.length := by simpa using h1
  have ej : idxJ ns m = j := by unfold idxJ; rw [hj]; rfl
  rw [ej]
  refine ⟨h1', ?_, fun S => ?_⟩
  · rw [List.getD_eq_getElem?_getD, List.getElem?_eq_getElem h1']
    simp [eqV] at h2
    exact h2
  · unfold vIndex
    dsimp only
    rw [lst_fro, Option.bind_some, e2, if_pos (by rfl), e1, show flatTo (Val.int m) = V.int m from rfl, hj]
    rfl
/-- the first setting with the least difference -/
def nearJ (L : List (List Int)) (a t : Nat) : Nat := idxJ (L.map fun s => s.getD t 0 - s.getD a 0) (hullE L a t)
theorem near_is {L : List (List Int)} (hL : L ≠ []) (a t : Nat) : nearJ L a t < L.length ∧ (L.getD (nearJ L a t) []).getD t 0 - (L.getD (nearJ L a t) []).getD a 0 = hullE L a t := by
  have hm := least_mem (ns := L.map fun s => s.getD t 0 - s.getD a 0) (by simpa using hL)
  obtain ⟨h1, h2, _⟩ := idx_ints hm
  have h1' : nearJ L a t < L.length := by
    rw [List.length_map] at h1
    exact h1
  refine ⟨h1', ?_⟩
  have h2' : (L.map fun s => s.getD t 0 - s.getD a 0).getD (nearJ L a t) 0 = hullE L a t := h2
  rw [← h2']
  simp [List.getD_eq_getElem?_getD, h1']
theorem call_nearest {L : List (List Int)} {n a t : Nat} {S : Store} (w : Wf S) (hL : L ≠ []) (hn : ∀ s ∈ L, s.length = n) (hz2 : L.length ≤ 1000) (ha : a < n) (ht : t < n) :
    M_nearest_to [tR L, .int (a : Int), .int (t : Int)] S = some (.int (nearJ L a t : Nat), S) := by
  have sz : ∀ k, k ≤ 1000 → k ≤ sizeLine := fun k h => by rw [sizeLine_eq]; omega
  have hm := least_mem (ns := L.map fun s => s.getD t 0 - s.getD a 0) (by simpa using hL)
  obtain ⟨h1, h2, h3⟩ := idx_ints hm
  have inner : ∀ (o o2 : Option Val), lcL (gN 4) mYes (mBin vSub (mBin vIx (mVar 4) (mVar 2)) (mBin vIx (mVar 4) (mVar 1))) [some (tR L), some (.int (a : Int)), some (.int (t : Int)), o, o2] (L.map tI) S = some ((L.map fun s => s.getD t 0 - s.getD a 0).map Val.int, S) := fun o o2 =>
    lc_map2 tI Val.int (fun s => s.getD t 0 - s.getD a 0) L fun s hs => by
      have ls := hn s hs
      refine ⟨_, s_gn .., ?_⟩
      simp [ix_tI, ls, ha, ht]
  refine gen_id0 ?_ rfl w refLt_int
  have m := minI_some (ns := L.map fun s => s.getD t 0 - s.getD a 0) (by simpa using hL)
  have i := inner none none
  have lz := sz L.length hz2
  unfold runB m_nearest_to
  rw [show startE N_nearest_to [tR L, .int (a : Int), .int (t : Int)] = [some (tR L), some (.int (a : Int)), some (.int (t : Int)), none, none] from rfl]
  have it : mItems (mVar 0) [some (tR L), some (.int (a : Int)), some (.int (t : Int)), none, none] S = some (L.map tI, S) := by unfold tR; simp
  have en : nearJ L a t = idxJ (L.map fun s => s.getD t 0 - s.getD a 0) (least (L.map fun s => s.getD t 0 - s.getD a 0)) := rfl
  rw [en]
  generalize hq : (L.map fun s => s.getD t 0 - s.getD a 0) = ns at i m h3 ⊢
  have hle : ns.length ≤ sizeLine := by rw [← hq, List.length_map]; exact lz
  rw [s_then, s_set, s_lc, it, bnd_ok]
  simp only [wipeE, List.set_cons_succ, List.set_cons_zero]
  rw [i, bnd_ok, if_pos (by rw [List.length_map]; exact hle)]
  generalize tR L = r
  simp [m, h3]
/-! ### mixtures -/
abbrev Pk := Nat × Int
def pkV (q : Pk) : Val := .tup [.int (q.1 : Nat), .int q.2]
def pksV (ps : List Pk) : Val := .tup (ps.map pkV)
def picksV (pp : List (List Pk)) : Val := .tup (pp.map pksV)
theorem refLt_pk {n : Nat} (q : Pk) : refLt n (pkV q) = true := by unfold pkV; simp
theorem refLt_pks {n : Nat} (q : List Pk) : refLt n (pksV q) = true := by unfold pksV; rw [refLt_tup]; exact refLtL_map refLt_pk q
theorem refLt_picks {n : Nat} (q : List (List Pk)) : refLt n (picksV q) = true := by unfold picksV; rw [refLt_tup]; exact refLtL_map refLt_pks q
def pkE (L : List (List Int)) (p : Nat) (q : Pk) : Int := (L.getD q.1 []).getD p 0 + q.2
def psE (L : List (List Int)) (p : Nat) (ps : List Pk) : Int := least (ps.map (pkE L p))
def mixE (L : List (List Int)) (pp : List (List Pk)) (p : Nat) : Int := most (pp.map (psE L p))
def mix (L : List (List Int)) (n : Nat) (pp : List (List Pk)) : List Int := (List.range n).map (mixE L pp)
/-- right picks -/
structure PkOk (L : List (List Int)) (pp : List (List Pk)) : Prop where
  ne : pp ≠ []
  some : ∀ ps ∈ pp, ps ≠ []
  ix : ∀ ps ∈ pp, ∀ q ∈ ps, q.1 < L.length
  few : pp.length ≤ 1000
  few2 : ∀ ps ∈ pp, ps.length ≤ 1000
theorem ints_snoc (S : Store) (l : List Int) (x : Int) (h : l.length < 1000) : vAppend (.ref S.length) [.int x] (S ++ [.lst (l.map Val.int)]) = some (.non, S ++ [.lst ((l ++ [x]).map Val.int)]) := by
  have e : l.length < sizeLine := by rw [sizeLine_eq]; omega
  simp [e]
theorem call_mixture {L : List (List Int)} {n : Nat} {pp : List (List Pk)} {S : Store} (w : Wf S) (hL : L ≠ []) (hn : ∀ s ∈ L, s.length = n) (hz : n ≤ 900) (P : PkOk L pp) : M_mixture [tR L, picksV pp] S = some (tI (mix L n pp), S) := by
  have sz : ∀ k, k ≤ 1000 → k ≤ sizeLine := fun k h => by rw [sizeLine_eq]; omega
  have pos : 0 < L.length := List.length_pos_iff.mpr hL
  have h0 : (L.getD 0 []).length = n := by
    cases L with
    | nil => exact absurd rfl hL
    | cons s L => exact hn s (by simp)
  have lenAt : ∀ k, k < L.length → (L.getD k []).length = n := fun k hk => by
    rw [List.getD_eq_getElem?_getD, List.getElem?_eq_getElem hk]
    exact hn _ (List.getElem_mem hk)
  have inner : ∀ (T : Store) (p : Nat) (ps : List Pk) (o2 o5 o6 : Option Val), p < n → ps ∈ pp → lcL (gT 2 (gCons' (gN 5) (gCons' (gN 6) (gNil')))) (mYes) (mBin vAdd (mBin vIx (mBin vIx (mVar 0) (mVar 5)) (mVar 3)) (mVar 6)) [some (tR L), some (picksV pp), o2, some (.int (p : Int)), some (pksV ps), o5, o6] (ps.map pkV) T = some ((ps.map (pkE L p)).map Val.int, T) := fun T p ps o2 o5 o6 hp hps =>
    lc_map2 pkV Val.int (pkE L p) ps fun q hq => by
      have hk := P.ix ps hps q hq
      have hlen := lenAt _ hk
      refine ⟨_, by unfold pkV; rw [s_gt, if_pos (by rfl), s_gcons, s_gn, bnd_ok, s_gcons, s_gn, bnd_ok, s_gnil], ?_⟩
      have i1 := ix_tR (S := T) hk
      have i2 := ix_tI (l := L.getD q.1 []) (k := p) (S := T) (by omega)
      unfold pkE
      generalize L.getD q.1 [] = g at *
      generalize g.getD p 0 = x at *
      generalize tR L = r at *
      simp [i1, i2]
  have mid : ∀ (T : Store) (p : Nat) (o2 o4 o5 o6 : Option Val), p < n → lcL (gN 4) (mYes) (mCall vMin (mCons (mLc false [5, 6] (mItems (mVar 4)) (gT 2 (gCons' (gN 5) (gCons' (gN 6) (gNil')))) (mYes) (mBin vAdd (mBin vIx (mBin vIx (mVar 0) (mVar 5)) (mVar 3)) (mVar 6))) (mNil))) [some (tR L), some (picksV pp), o2, some (.int (p : Int)), o4, o5, o6] (pp.map pksV) T = some ((pp.map (psE L p)).map Val.int, T) := fun T p o2 o4 o5 o6 hp =>
    lc_map2 pksV Val.int (psE L p) pp fun ps hps => by
      refine ⟨_, s_gn .., ?_⟩
      have i := inner T p ps o2 none none hp hps
      have ne : (ps.map (pkE L p)) ≠ [] := by simpa using P.some ps hps
      have m := minI_some ne
      have lz := sz _ (P.few2 ps hps)
      have it : ∀ T, mItems (mVar 4) [some (tR L), some (picksV pp), o2, some (.int (p : Int)), some (pksV ps), o5, o6] T = some (ps.map pkV, T) := fun T => by unfold pksV; simp
      have e : psE L p ps = least (ps.map (pkE L p)) := rfl
      rw [e]
      generalize hq : ps.map (pkE L p) = ns at i m
      have hle : ns.length ≤ sizeLine := by rw [← hq, List.length_map]; exact lz
      simp only [List.set_cons_succ, List.set_cons_zero]
      rw [s_call, s_cons, s_lc, it, bnd_ok]
      simp only [wipeE, List.set_cons_succ, List.set_cons_zero]
      rw [i, bnd_ok, if_pos (by rw [List.length_map]; exact hle)]
      simp [m]
  have loop : ∀ (ps : List Nat) (acc : List Int) (o3 o4 o5 o6 : Option Val), (∀ p ∈ ps, p < n) → acc.length + ps.length ≤ 900 → ∃ o3', forL (gN 3) (mDo (mMeth "list" vAppend (mVar 2) (mCons (mCall vMax (mCons (mLc false [4] (mItems (mVar 1)) (gN 4) (mYes) (mCall vMin (mCons (mLc false [5, 6] (mItems (mVar 4)) (gT 2 (gCons' (gN 5) (gCons' (gN 6) (gNil')))) (mYes) (mBin vAdd (mBin vIx (mBin vIx (mVar 0) (mVar 5)) (mVar 3)) (mVar 6))) (mNil)))) (mNil))) (mNil))))
      (ps.map fun i => Val.int (i : Nat)) [some (tR L), some (picksV pp), some (.ref S.length), o3, o4, o5, o6] (S ++ [.lst (acc.map Val.int)]) = some (.nx [some (tR L), some (picksV pp), some (.ref S.length), o3', o4, o5, o6], S ++ [.lst ((acc ++ ps.map (mixE L pp)).map Val.int)]) := by
    intro ps
    induction ps with
    | nil => intro acc o3 o4 o5 o6 _ _; exact ⟨o3, by simp [for_nil]⟩
    | cons p ps ih =>
      intro acc o3 o4 o5 o6 h hl
      have hp := h p (by simp)
      obtain ⟨o3', ih⟩ := ih (acc ++ [mixE L pp p]) (some (.int (p : Int))) o4 o5 o6 (fun q hq => h q (by simp [hq])) (by simp at hl ⊢; omega)
      refine ⟨o3', ?_⟩
      have i := mid (S ++ [.lst (acc.map Val.int)]) p (some (.ref S.length)) none o5 o6 hp
      have ne : (pp.map (psE L p)) ≠ [] := by simpa using P.ne
      have m := maxI_some ne
      have lz := sz _ P.few
      have ap := ints_snoc S acc (mixE L pp p) (by simp at hl; omega)
      have it : ∀ T, mItems (mVar 1) [some (tR L), some (picksV pp), some (.ref S.length), some (.int (p : Int)), o4, o5, o6] T = some (pp.map pksV, T) := fun T => by unfold picksV; simp
      have e : mixE L pp p = most (pp.map (psE L p)) := rfl
      have tl : tyD "list" (S ++ [.lst (acc.map Val.int)]) (.ref S.length) = true := by simp
      rw [List.map_cons, for_cons, s_gn, bnd_ok]
      simp only [List.set_cons_succ, List.set_cons_zero]
      have el : acc ++ (p :: ps).map (mixE L pp) = (acc ++ [mixE L pp p]) ++ ps.map (mixE L pp) := by simp
      rw [el, ← ih]
      rw [e] at ap ⊢
      generalize hq : pp.map (psE L p) = ns at i m ap ⊢
      have hle : ns.length ≤ sizeLine := by rw [← hq, List.length_map]; exact lz
      rw [s_do, s_meth, s_var]
      simp only [List.getElem?_cons_succ, List.getElem?_cons_zero, bnd_ok]
      rw [if_pos tl, s_cons, s_call, s_cons, s_lc, it, bnd_ok]
      simp only [wipeE, List.set_cons_succ, List.set_cons_zero]
      rw [i, bnd_ok, if_pos (by rw [List.length_map]; exact hle)]
      simp only [mk_f, bnd_ok, s_nil, v_maxF, intsOf_map, Option.bind_some, m, Option.map_some]
      rw [ap, bnd_ok, bnd_ok]
  obtain ⟨o3, h⟩ := loop (List.range n) [] none none none none (fun p hp => List.mem_range.mp hp) (by simp; omega)
  refine gen_id (J := [.lst ((mix L n pp).map Val.int)]) ?_ rfl w (refLt_tI _)
  unfold runB m_mixture
  rw [show startE N_mixture [tR L, picksV pp] = [some (tR L), some (picksV pp), none, none, none, none, none] from rfl]
  have hI : ∀ (T : Store), mRng1 (mCons (mCall vLen (mCons (mBin vIx (mVar 0) (mC (.int 0))) (mNil))) (mNil)) [some (tR L), some (picksV pp), some (.ref S.length), none, none, none, none] T = some (rangeV 0 n, T) := fun T => by
    refine rng1_of (m := n) (S' := T) (by omega) ?_
    have e2 : vIx (tR L) (.int 0) T = some (tI (L.getD 0 []), T) := ix_tR (S := T) pos
    have l2 := len_tI (l := L.getD 0 []) (S := T)
    rw [h0] at l2
    generalize tI (L.getD 0 []) = g0 at e2 l2
    generalize tR L = r at e2 ⊢
    simp [e2, l2]
  rw [s_then, s_set, s_lst, s_nil, bnd_ok, if_pos (show ([] : List Val).length ≤ sizeLine from Nat.zero_le _), bnd_ok, s_gn, bnd_ok, bnd_ok]
  simp only [List.set_cons_succ, List.set_cons_zero]
  rw [s_then, s_for, hI, bnd_ok, rangeV_nat]
  rw [List.map_nil, List.nil_append, show (List.range n).map (mixE L pp) = mix L n pp from rfl] at h
  rw [h, bnd_ok]
  generalize mix L n pp = l
  simp
  rfl
/-! ### as data -/
def pkP (q : Pk) : PyData := .tuple [.int (q.1 : Nat), .int q.2]
def pksP (ps : List Pk) : PyData := .tuple (ps.map pkP)
theorem toPyL_map {α : Type} {v : α → Val} {p : α → PyData} (h : ∀ x, toPy (v x) = some (p x)) : ∀ l : List α, toPyL (l.map v) = some (l.map p)
  | [] => by rw [List.map_nil, toPyL]; rfl
  | x :: l => by
    rw [List.map_cons, toPyL, toPyL_map h l, h]
    rfl
theorem toPy_pk (q : Pk) : toPy (pkV q) = some (pkP q) := by
  unfold pkV pkP toPy
  simp [toPyL, toPy]
theorem toPy_pks (q : List Pk) : toPy (pksV q) = some (pksP q) := by
  unfold pksV pksP toPy
  rw [toPyL_map toPy_pk]
  rfl
theorem lay_map {α : Type} {p : α → PyData} (h : ∀ x, PyData.canLay0 (p x) = true) : ∀ l : List α, PyData.canLayAll0 (l.map p) = true
  | [] => rfl
  | x :: l => by rw [List.map_cons, PyData.canLayAll0, h, lay_map h l]; rfl
theorem depth_map {α : Type} {p : α → PyData} {k : Nat} (h : ∀ x, PyData.depth (p x) ≤ k) : ∀ l : List α, PyData.depthAll (l.map p) ≤ k
  | [] => Nat.zero_le _
  | x :: l => by
    have h1 := h x
    have h2 := depth_map h l
    rw [List.map_cons, PyData.depthAll]
    omega
theorem lay_pk (q : Pk) : PyData.canLay0 (pkP q) = true := by unfold pkP; simp [PyData.canLay0, PyData.canLayAll0]
theorem depth_pk (q : Pk) : PyData.depth (pkP q) ≤ 1 := by unfold pkP; simp [PyData.depth, PyData.depthAll]
theorem lay_pks (q : List Pk) : PyData.canLay0 (pksP q) = true := by unfold pksP; rw [PyData.canLay0]; exact lay_map lay_pk q
theorem depth_pks (q : List Pk) : PyData.depth (pksP q) ≤ 2 := by
  have := depth_map depth_pk q
  unfold pksP
  rw [PyData.depth]
  omega
/-- a cell against the empty list -/
theorem v_nilG {S : Store} {r : Nat} {l : List Val} {ds : List PyData} (k : Bool) (h : S[r]? = some (.lst l)) (hp : toPyL l = some ds) (hs : SeqAt.shaped (.list ds) = true) : vEqN k (.ref r) (.fro []) S = some (.bl (if k then !l.isEmpty else l.isEmpty), S) := by
  show (pyOf S (.ref r)).bind _ = _
  have e1 : pyOf S (.ref r) = some (.list ds) := by
    have e0 : topV S (.ref r) = .fro l := by
      show (match S[r]? with | some (.lst l) => Val.fro l | _ => .ref r) = _
      rw [h]
    unfold pyOf
    rw [e0]
    unfold toPy
    rw [hp]
    rfl
  have e2 : pyOf S (.fro []) = some (.list []) := by
    unfold pyOf topV toPy toPyL
    rfl
  rw [e1, e2]
  show (if (SeqAt.shaped _ && SeqAt.shaped _) = true then _ else _) = _
  rw [hs, if_pos (by exact shaped_ints [])]
  have e3 : PyData.eqv (.list ds) (.list []) = l.isEmpty := by
    rw [PyData.eqv]
    cases l with
    | nil =>
      rw [toPyL] at hp
      cases hp
      rfl
    | cons x l =>
      cases ds with
      | nil =>
        rw [toPyL] at hp
        cases q : toPy x with
        | none => rw [q] at hp; cases hp
        | some p =>
          rw [q] at hp
          cases q2 : toPyL l with
          | none => rw [q2] at hp; cases hp
          | some p2 => rw [q2] at hp; cases hp
      | cons _ _ => rfl
  rw [e3]
/-! ### picks of a setting that keeps the rows -/
def pickOf (L : List (List Int)) (v : List Int) (a t : Nat) : Pk := (nearJ L a t, v.getD a 0 - (L.getD (nearJ L a t) []).getD a 0)
def picksOf (L : List (List Int)) (n : Nat) (v : List Int) : List (List Pk) := if n = 0 then [[(0, 0)]] else (List.range n).map fun a => (List.range n).map fun t => pickOf L v a t
theorem pks_snoc (S : Store) (l : List (List Pk)) (x : List Pk) (h : l.length < 1000) : vAppend (.ref S.length) [pksV x] (S ++ [.lst (l.map pksV)]) = some (.non, S ++ [.lst ((l ++ [x]).map pksV)]) := by
  have e : l.length < sizeLine := by rw [sizeLine_eq]; omega
  simp [e]
theorem call_picks {L : List (List Int)} {n : Nat} {v : List Int} {S : Store} (w : Wf S) (hL : L ≠ []) (hn : ∀ s ∈ L, s.length = n) (hz : n ≤ 900) (hz2 : L.length ≤ 900) (hv : v.length = n) :
    M_picks_of [tR L, tI v] S = some (if keeps (hull L n) v = true then picksV (picksOf L n v) else .non, S) := by
  have sz : ∀ k, k ≤ 1000 → k ≤ sizeLine := fun k h => by rw [sizeLine_eq]; omega
  have ch := call_hull w hL hn (by omega) (by omega)
  have cs : M_is_setting [tR (hull L n), tI v] S = some (.bl (keeps (hull L n) v), S) := call_setting w (fun r hr => by
    unfold hull at hr
    obtain ⟨a, _, rfl⟩ := List.mem_map.mp hr
    simp [hv]) (by rw [hull_len, hv]) (by omega)
  have lenAt : ∀ k, k < L.length → (L.getD k []).length = n := fun k hk => by
    rw [List.getD_eq_getElem?_getD, List.getElem?_eq_getElem hk]
    exact hn _ (List.getElem_mem hk)
  have nums : ∀ (T : Store) (a : Nat) (o2 o4 o5 o6 : Option Val), Wf T → a < n → lcL (gN 5) (mYes) (mCall M_nearest_to (mCons (mVar 0) (mCons (mVar 3) (mCons (mVar 5) (mNil))))) [some (tR L), some (tI v), o2, some (.int (a : Int)), o4, o5, o6] ((List.range n).map fun i => Val.int (i : Nat)) T = some (((List.range n).map (nearJ L a)).map fun i => Val.int (i : Nat), T) := fun T a o2 o4 o5 o6 wT ha =>
    lc_map2 (fun i : Nat => Val.int (i : Nat)) (fun i : Nat => Val.int (i : Nat)) (nearJ L a) (List.range n) fun t ht => by
      refine ⟨_, s_gn .., ?_⟩
      have c := call_nearest (S := T) wT hL hn (by omega) ha (List.mem_range.mp ht)
      generalize tR L = r at *
      simp [c]
  have prs : ∀ (T : Store) (a : Nat) (js : List Nat) (o2 o4 o5 o6 : Option Val), a < n → (∀ j ∈ js, j < L.length) → lcL (gN 6) (mYes) (mTup (mCons (mVar 6) (mCons (mBin vSub (mBin vIx (mVar 1) (mVar 3)) (mBin vIx (mBin vIx (mVar 0) (mVar 6)) (mVar 3))) (mNil)))) [some (tR L), some (tI v), o2, some (.int (a : Int)), o4, o5, o6] (js.map fun i => Val.int (i : Nat)) T = some ((js.map fun j => ((j, v.getD a 0 - (L.getD j []).getD a 0) : Pk)).map pkV, T) := fun T a js o2 o4 o5 o6 ha hj =>
    lc_map2 (fun i : Nat => Val.int (i : Nat)) pkV (fun j => ((j, v.getD a 0 - (L.getD j []).getD a 0) : Pk)) js fun j hjm => by
      have hk := hj j hjm
      have hlen := lenAt _ hk
      have e2 : 2 ≤ sizeLine := sz 2 (by decide)
      refine ⟨_, s_gn .., ?_⟩
      have i1 := ix_tR (S := T) hk
      have i2 := ix_tI (l := L.getD j []) (k := a) (S := T) (by omega)
      have i3 := ix_tI (l := v) (k := a) (S := T) (by omega)
      unfold pkV
      generalize L.getD j [] = g at *
      generalize g.getD a 0 = x at *
      generalize v.getD a 0 = y at *
      generalize tR L = r at *
      generalize tI v = u at *
      simp [i1, i2, i3, e2]
  have hI : ∀ (T : Store) (o2 o3 o4 o5 o6 : Option Val), mRng1 (mCons (mCall vLen (mCons (mVar 1) (mNil))) (mNil)) [some (tR L), some (tI v), o2, o3, o4, o5, o6] T = some ((List.range n).map fun i => Val.int (i : Nat), T) := fun T o2 o3 o4 o5 o6 => by
    rw [← rangeV_nat]
    refine rng1_of (m := n) (S' := T) (by omega) ?_
    have l2 := len_tI (l := v) (S := T)
    rw [hv] at l2
    generalize tI v = u at *
    simp [l2]
  have near_lt : ∀ a, ∀ j ∈ (List.range n).map (nearJ L a), j < L.length := fun a j hj => by
    obtain ⟨t, _, rfl⟩ := List.mem_map.mp hj
    exact (near_is hL a t).1
  have loop : ∀ (as : List Nat) (acc : List (List Pk)) (o3 o4 o5 o6 : Option Val), (∀ a ∈ as, a < n) → acc.length + as.length ≤ 900 → ∃ o3' o4', forL (gN 3) (mThen (mSet (mLc false [5] (mRng1 (mCons (mCall vLen (mCons (mVar 1) (mNil))) (mNil))) (gN 5) (mYes) (mCall M_nearest_to (mCons (mVar 0) (mCons (mVar 3) (mCons (mVar 5) (mNil)))))) (gN 4))
 (mDo (mMeth "list" vAppend (mVar 2) (mCons (mCall vTuple (mCons (mLc false [6] (mItems (mVar 4)) (gN 6) (mYes) (mTup (mCons (mVar 6) (mCons (mBin vSub (mBin vIx (mVar 1) (mVar 3)) (mBin vIx (mBin vIx (mVar 0) (mVar 6)) (mVar 3))) (mNil))))) (mNil))) (mNil)))))
      (as.map fun i => Val.int (i : Nat)) [some (tR L), some (tI v), some (.ref S.length), o3, o4, o5, o6] (S ++ [.lst (acc.map pksV)]) = some (.nx [some (tR L), some (tI v), some (.ref S.length), o3', o4', o5, o6], S ++ [.lst ((acc ++ as.map fun a => (List.range n).map (pickOf L v a)).map pksV)]) := by
    intro as
    induction as with
    | nil => intro acc o3 o4 o5 o6 _ _; exact ⟨o3, o4, by simp [for_nil]⟩
    | cons a as ih =>
      intro acc o3 o4 o5 o6 h hl
      have ha := h a (by simp)
      obtain ⟨p3, p4, ih⟩ := ih (acc ++ [(List.range n).map (pickOf L v a)]) (some (.int (a : Int))) (some (.fro (((List.range n).map (nearJ L a)).map fun i => Val.int (i : Nat)))) o5 o6 (fun q hq => h q (by simp [hq])) (by simp at hl ⊢; omega)
      refine ⟨p3, p4, ?_⟩
      have wT : Wf (S ++ [.lst (acc.map pksV)]) := w.lst (refLtL_map refLt_pks _)
      have i1 := nums (S ++ [.lst (acc.map pksV)]) a (some (.ref S.length)) o4 none o6 wT ha
      have i2 := prs (S ++ [.lst (acc.map pksV)]) a ((List.range n).map (nearJ L a)) (some (.ref S.length)) (some (.fro (((List.range n).map (nearJ L a)).map fun i => Val.int (i : Nat)))) o5 none ha (near_lt a)
      have ep : ((List.range n).map (nearJ L a)).map (fun j => ((j, v.getD a 0 - (L.getD j []).getD a 0) : Pk)) = (List.range n).map (pickOf L v a) := by rw [List.map_map]; rfl
      rw [ep] at i2
      have ap := pks_snoc S acc ((List.range n).map (pickOf L v a)) (by simp at hl; omega)
      have tl : tyD "list" (S ++ [.lst (acc.map pksV)]) (.ref S.length) = true := by simp
      have el : acc ++ (a :: as).map (fun a => (List.range n).map (pickOf L v a)) = (acc ++ [(List.range n).map (pickOf L v a)]) ++ as.map fun a => (List.range n).map (pickOf L v a) := by simp
      have n1 : ((List.range n).map (nearJ L a)).length ≤ sizeLine := by rw [List.length_map, List.length_range]; exact sz _ (by omega)
      have n2 : ((List.range n).map (pickOf L v a)).length ≤ sizeLine := by rw [List.length_map, List.length_range]; exact sz _ (by omega)
      rw [List.map_cons, for_cons, s_gn, bnd_ok]
      simp only [List.set_cons_succ, List.set_cons_zero]
      rw [el, ← ih]
      generalize (List.range n).map (nearJ L a) = js at *
      generalize (List.range n).map (pickOf L v a) = ps at *
      rw [s_then, s_set, s_lc, hI, bnd_ok]
      simp only [wipeE, List.set_cons_succ, List.set_cons_zero]
      rw [i1, bnd_ok, if_pos (by rw [List.length_map]; exact n1)]
      simp only [mk_f, bnd_ok, s_gn, List.set_cons_succ, List.set_cons_zero]
      rw [s_do, s_meth, s_var]
      simp only [List.getElem?_cons_succ, List.getElem?_cons_zero, bnd_ok]
      rw [if_pos tl, s_cons, s_call, s_cons, s_lc, s_items, s_var]
      simp only [List.getElem?_cons_succ, List.getElem?_cons_zero, bnd_ok, fro_f, Option.map_some, wipeE, List.set_cons_succ, List.set_cons_zero]
      rw [i2, bnd_ok, if_pos (by rw [List.length_map]; exact n2)]
      simp only [mk_f, bnd_ok, s_nil, v_tupF]
      rw [show Val.tup (ps.map pkV) = pksV ps from rfl, ap, bnd_ok, bnd_ok]
  obtain ⟨o3, o4, h⟩ := loop (List.range n) [] none none none none (fun a ha => List.mem_range.mp ha) (by simp; omega)
  have hr0 : startE N_picks_of [tR L, tI v] = [some (tR L), some (tI v), none, none, none, none, none] := rfl
  cases hk : keeps (hull L n) v with
  | false =>
    rw [hk] at cs
    refine gen_id0 ?_ rfl w (by simp)
    unfold runB m_picks_of
    rw [hr0]
    generalize tR (hull L n) = R at *
    generalize tR L = r at *
    generalize tI v = u at *
    simp [ch, cs, truD]
  | true =>
    rw [hk] at cs
    obtain ⟨acc, hacc⟩ : ∃ acc, (List.range n).map (fun a => (List.range n).map (pickOf L v a)) = acc := ⟨_, rfl⟩
    have hlen : acc.length = n := by rw [← hacc, List.length_map, List.length_range]
    have hpo : picksV (picksOf L n v) = if acc.isEmpty = true then picksV [[(0, 0)]] else picksV acc := by
      unfold picksOf
      by_cases z : n = 0
      · rw [if_pos z]
        have : acc = [] := List.eq_nil_of_length_eq_zero (by omega)
        rw [this]
        rfl
      · rw [if_neg z, hacc]
        have : acc.isEmpty = false := by
          cases acc with
          | nil => simp at hlen; omega
          | cons _ _ => rfl
        rw [this, if_neg (by decide)]
    rw [List.map_nil, List.nil_append, hacc] at h
    have vn := v_nilG (S := S ++ [.lst (acc.map pksV)]) (r := S.length) (l := acc.map pksV) true (by simp) (toPyL_map toPy_pks acc) (by
      have := depth_map depth_pks acc
      unfold SeqAt.shaped
      rw [PyData.canLay0, lay_map lay_pks acc, decide_eq_true (show PyData.depth _ ≤ 64 by rw [PyData.depth]; omega)]
      rfl)
    have e0 : ([] : List Val).length ≤ sizeLine := Nat.zero_le _
    have e1 : 1 ≤ sizeLine := sz 1 (by decide)
    have e2 : 2 ≤ sizeLine := sz 2 (by decide)
    rw [if_pos rfl]
    refine gen_id (S1 := S) (J := [.lst (acc.map pksV)]) ?_ rfl w (refLt_picks _)
    unfold runB m_picks_of
    rw [hr0]
    have hI' := hI (S ++ [.lst []]) (some (.ref S.length)) none none none none
    rw [hpo]
    have em : (acc.map pksV).isEmpty = acc.isEmpty := by cases acc <;> rfl
    rw [em] at vn
    generalize tR (hull L n) = R at *
    generalize tR L = r at *
    generalize tI v = u at *
    rw [s_then, s_when]
    have c0 : mNot (mTru (mCall M_is_setting (mCons (mCall M_hull_rows (mCons (mVar 0) (mNil))) (mCons (mVar 1) (mNil))))) [some r, some u, none, none, none, none, none] S = some (false, S) := by
      simp [ch, cs, truD]
    rw [c0, bnd_ok, if_neg (by decide), s_skip, bnd_ok]
    simp only []
    rw [s_then, s_set, s_lst, s_nil, bnd_ok, if_pos e0, bnd_ok, s_gn, bnd_ok, bnd_ok]
    simp only [List.set_cons_succ, List.set_cons_zero]
    rw [s_then, s_for, hI', bnd_ok, h, bnd_ok]
    simp only []
    cases e : acc.isEmpty with
    | true =>
      rw [e] at vn
      simp [vn, e1, e2]
      rfl
    | false =>
      rw [e] at vn
      simp [vn]
      rfl
end T17
namespace T17
/-! ### plain: mixtures -/
theorem mem_at {L : List (List Int)} {k : Nat} (h : k < L.length) : L.getD k [] ∈ L := by
  rw [List.getD_eq_getElem?_getD, List.getElem?_eq_getElem h]
  exact List.getElem_mem h
theorem mix_at {L : List (List Int)} {n p : Nat} {pp : List (List Pk)} (hp : p < n) : (mix L n pp).getD p 0 = mixE L pp p := by
  unfold mix
  simp [List.getD_eq_getElem?_getD, hp]
theorem mix_len (L : List (List Int)) (n : Nat) (pp : List (List Pk)) : (mix L n pp).length = n := by unfold mix; simp
theorem mix_keeps {L : List (List Int)} {n : Nat} {pp : List (List Pk)} (P : PkOk L pp) : keeps (hull L n) (mix L n pp) = true := by
  rw [keeps_hull]
  intro a t ha ht
  rw [mix_at ha, mix_at ht]
  have h1 := most_mem (ns := pp.map (psE L a)) (by simpa using P.ne)
  obtain ⟨ps, hps, e1⟩ := List.mem_map.mp h1
  have h2 : psE L t ps ≤ mixE L pp t := le_most (List.mem_map.mpr ⟨ps, hps, rfl⟩)
  have h3 := least_mem (ns := ps.map (pkE L t)) (by simpa using P.some ps hps)
  obtain ⟨q, hq, e2⟩ := List.mem_map.mp h3
  have h4 : psE L a ps ≤ pkE L a q := least_le (List.mem_map.mpr ⟨q, hq, rfl⟩)
  have h5 := hullE_le (mem_at (P.ix ps hps q hq)) a t
  have e3 : mixE L pp a = psE L a ps := e1.symm
  have e4 : psE L t ps = pkE L t q := e2.symm
  unfold pkE at e4 h4
  omega
theorem picks_ok {L : List (List Int)} {n : Nat} {v : List Int} (hL : L ≠ []) (hz : n ≤ 900) : PkOk L (picksOf L n v) := by
  have pos : 0 < L.length := List.length_pos_iff.mpr hL
  unfold picksOf
  by_cases z : n = 0
  · rw [if_pos z]
    refine ⟨by simp, fun ps h => ?_, fun ps h q hq => ?_, by simp, fun ps h => ?_⟩
    · rw [List.mem_singleton.mp h]; simp
    · rw [List.mem_singleton.mp h] at hq
      rw [List.mem_singleton.mp hq]
      exact pos
    · rw [List.mem_singleton.mp h]; simp
  · rw [if_neg z]
    refine ⟨by simp [z], fun ps h => ?_, fun ps h q hq => ?_, by simp; omega, fun ps h => ?_⟩
    · obtain ⟨a, _, rfl⟩ := List.mem_map.mp h
      simp [z]
    · obtain ⟨a, _, rfl⟩ := List.mem_map.mp h
      obtain ⟨t, _, rfl⟩ := List.mem_map.mp hq
      exact (near_is hL a t).1
    · obtain ⟨a, _, rfl⟩ := List.mem_map.mp h
      simp
      omega
theorem mix_back {L : List (List Int)} {n : Nat} {v : List Int} (hL : L ≠ []) (hv : v.length = n) (hk : keeps (hull L n) v = true) : mix L n (picksOf L n v) = v := by
  rw [keeps_hull] at hk
  apply List.ext_getElem
  · rw [mix_len, hv]
  · intro p h1 h2
    rw [mix_len] at h1
    have e1 : (mix L n (picksOf L n v))[p] = mixE L (picksOf L n v) p := by
      have := mix_at (L := L) (pp := picksOf L n v) h1
      rw [List.getD_eq_getElem?_getD, List.getElem?_eq_getElem (by rw [mix_len]; exact h1)] at this
      exact this
    have e2 : v[p] = v.getD p 0 := by rw [List.getD_eq_getElem?_getD, List.getElem?_eq_getElem h2]; rfl
    rw [e1, e2]
    have nz : n ≠ 0 := by omega
    have ep : picksOf L n v = (List.range n).map fun a => (List.range n).map fun t => pickOf L v a t := by unfold picksOf; rw [if_neg nz]
    have ub : ∀ a, a < n → psE L p ((List.range n).map fun t => pickOf L v a t) ≤ v.getD p 0 := fun a ha => by
      have h3 : psE L p ((List.range n).map fun t => pickOf L v a t) ≤ pkE L p (pickOf L v a p) := least_le (List.mem_map.mpr ⟨_, List.mem_map.mpr ⟨p, List.mem_range.mpr h1, rfl⟩, rfl⟩)
      have h4 := (near_is hL a p).2
      have h5 := hk a p ha h1
      have h6 : pkE L p (pickOf L v a p) = (L.getD (nearJ L a p) []).getD p 0 + (v.getD a 0 - (L.getD (nearJ L a p) []).getD a 0) := rfl
      omega
    have lb : psE L p ((List.range n).map fun t => pickOf L v p t) = v.getD p 0 := by
      have ne : ((List.range n).map fun t => pickOf L v p t).map (pkE L p) ≠ [] := by simp [nz]
      have h3 := least_mem ne
      obtain ⟨q, hq, e⟩ := List.mem_map.mp h3
      obtain ⟨t, ht, rfl⟩ := List.mem_map.mp hq
      show least _ = _
      rw [← e]
      unfold pkE pickOf
      dsimp only
      omega
    unfold mixE
    rw [ep]
    have ne : ((List.range n).map fun a => (List.range n).map fun t => pickOf L v a t).map (psE L p) ≠ [] := by simp [nz]
    have h3 := most_mem ne
    obtain ⟨ps, hps, e⟩ := List.mem_map.mp h3
    obtain ⟨a, ha, rfl⟩ := List.mem_map.mp hps
    have h4 := ub a (List.mem_range.mp ha)
    have h5 : psE L p ((List.range n).map fun t => pickOf L v p t) ≤ most (((List.range n).map fun a => (List.range n).map fun t => pickOf L v a t).map (psE L p)) := le_most (List.mem_map.mpr ⟨_, List.mem_map.mpr ⟨p, List.mem_range.mpr h1, rfl⟩, rfl⟩)
    omega
end T17
namespace T17
open PySem PySem.Spec PyProof.Rows L2 Fx
/-! ### plain: going round with the greatest and the least of two -/
theorem getD_map_range {n : Nat} {f : Nat → Int} {p : Nat} (h : p < n) : ((List.range n).map f).getD p 0 = f p := by
  simp [List.getD_eq_getElem?_getD, h]
theorem level_at {s : List Int} {p : Nat} (h : p < s.length) : (level s).getD p 0 = s.getD p 0 - s.getD 0 0 := by
  unfold level
  simp [List.getD_eq_getElem?_getD, h]
theorem ext_getD {a b : List Int} {n : Nat} (ha : a.length = n) (hb : b.length = n) (h : ∀ p, p < n → a.getD p 0 = b.getD p 0) : a = b := by
  apply List.ext_getElem (by omega)
  intro p h1 h2
  have := h p (by omega)
  simpa [List.getD_eq_getElem?_getD, h1, h2] using this
def rmax (a b : List Int) (t : Int) : List Int := (List.range a.length).map fun p => max (a.getD p 0) (b.getD p 0 + t)
def rmin (a b : List Int) (t : Int) : List Int := (List.range a.length).map fun p => min (a.getD p 0) (b.getD p 0 + t)
def cmax (a b : List Int) (t : Int) : List Int := level (rmax a b t)
def cmin (a b : List Int) (t : Int) : List Int := level (rmin a b t)
theorem cmax_len (a b : List Int) (t : Int) : (cmax a b t).length = a.length := by simp [cmax, level_len, rmax]
theorem cmin_len (a b : List Int) (t : Int) : (cmin a b t).length = a.length := by simp [cmin, level_len, rmin]
theorem cmax_at {a b : List Int} {t : Int} {p : Nat} (h : p < a.length) : (cmax a b t).getD p 0 = max (a.getD p 0) (b.getD p 0 + t) - max (a.getD 0 0) (b.getD 0 0 + t) := by
  have h0 : 0 < a.length := by omega
  unfold cmax
  rw [level_at (by simpa [rmax] using h)]
  unfold rmax
  rw [getD_map_range h, getD_map_range h0]
theorem cmin_at {a b : List Int} {t : Int} {p : Nat} (h : p < a.length) : (cmin a b t).getD p 0 = min (a.getD p 0) (b.getD p 0 + t) - min (a.getD 0 0) (b.getD 0 0 + t) := by
  have h0 : 0 < a.length := by omega
  unfold cmin
  rw [level_at (by simpa [rmin] using h)]
  unfold rmin
  rw [getD_map_range h, getD_map_range h0]
theorem cmax_comm {a b : List Int} {t : Int} {n : Nat} (ha : a.length = n) (hb : b.length = n) : cmax a b t = cmax b a (-t) := by
  refine ext_getD (n := n) (by rw [cmax_len, ha]) (by rw [cmax_len, hb]) fun p hp => ?_
  rw [cmax_at (by omega), cmax_at (by omega)]
  omega
theorem cmin_comm {a b : List Int} {t : Int} {n : Nat} (ha : a.length = n) (hb : b.length = n) : cmin a b t = cmin b a (-t) := by
  refine ext_getD (n := n) (by rw [cmin_len, ha]) (by rw [cmin_len, hb]) fun p hp => ?_
  rw [cmin_at (by omega), cmin_at (by omega)]
  omega
/-- the settings with the first number 0 that keep the hull -/
structure Lv (L : List (List Int)) (n : Nat) (x : List Int) : Prop where
  len : x.length = n
  zero : x.getD 0 0 = 0
  kp : keeps (hull L n) x = true
theorem lv_level {L : List (List Int)} {n : Nat} {s : List Int} (hn : 0 < n) (hs : s ∈ L) (hl : s.length = n) : Lv L n (level s) where
  len := by rw [level_len, hl]
  zero := by rw [level_at (by omega)]; omega
  kp := by
    rw [keeps_shift (s := s) (c := -s.getD 0 0) fun t ht => by rw [level_at (by omega)]; omega]
    exact hull_self hs
theorem lv_cmax {L : List (List Int)} {n : Nat} {a b : List Int} {t : Int} (hn : 0 < n) (ha : Lv L n a) (hb : Lv L n b) : Lv L n (cmax a b t) where
  len := by rw [cmax_len, ha.len]
  zero := by rw [cmax_at (by rw [ha.len]; exact hn)]; omega
  kp := by
    rw [keeps_hull]
    intro p q hp hq
    have h1 := keeps_hull.mp ha.kp p q hp hq
    have h2 := keeps_hull.mp hb.kp p q hp hq
    rw [cmax_at (p := p) (by rw [ha.len]; exact hp), cmax_at (p := q) (by rw [ha.len]; exact hq)]
    omega
theorem lv_cmin {L : List (List Int)} {n : Nat} {a b : List Int} {t : Int} (hn : 0 < n) (ha : Lv L n a) (hb : Lv L n b) : Lv L n (cmin a b t) where
  len := by rw [cmin_len, ha.len]
  zero := by rw [cmin_at (by rw [ha.len]; exact hn)]; omega
  kp := by
    rw [keeps_hull]
    intro p q hp hq
    have h1 := keeps_hull.mp ha.kp p q hp hq
    have h2 := keeps_hull.mp hb.kp p q hp hq
    rw [cmin_at (p := p) (by rw [ha.len]; exact hp), cmin_at (p := q) (by rw [ha.len]; exact hq)]
    omega
def farOf (L : List (List Int)) : Int := most (L.map fun s => most s - least s)
theorem getD_mem {s : List Int} {p : Nat} (h : p < s.length) : s.getD p 0 ∈ s := by
  rw [List.getD_eq_getElem?_getD, List.getElem?_eq_getElem h]
  exact List.getElem_mem h
theorem hullE_far {L : List (List Int)} {n : Nat} (hL : L ≠ []) (hl : ∀ s ∈ L, s.length = n) {p q : Nat} (hp : p < n) (hq : q < n) : -farOf L ≤ hullE L p q := by
  obtain ⟨s, hs, e⟩ := hullE_is hL p q
  have ls := hl s hs
  have h1 := least_le (getD_mem (s := s) (p := q) (by omega))
  have h2 := le_most (getD_mem (s := s) (p := p) (by omega))
  have h3 : most s - least s ≤ farOf L := le_most (List.mem_map.mpr ⟨s, hs, rfl⟩)
  omega
theorem lv_far {L : List (List Int)} {n : Nat} (hL : L ≠ []) (hl : ∀ s ∈ L, s.length = n) {x : List Int} (hx : Lv L n x) {p : Nat} (hp : p < n) : -farOf L ≤ x.getD p 0 ∧ x.getD p 0 ≤ farOf L := by
  have h0 : 0 < n := by omega
  have h1 := keeps_hull.mp hx.kp 0 p h0 hp
  have h2 := keeps_hull.mp hx.kp p 0 hp h0
  have h3 := hullE_far hL hl h0 hp
  have h4 := hullE_far hL hl hp h0
  have := hx.zero
  omega
theorem far_pos {L : List (List Int)} {n : Nat} (hL : L ≠ []) (hl : ∀ s ∈ L, s.length = n) (hn : 0 < n) : 0 ≤ farOf L := by
  have h1 := hullE_far hL hl hn hn
  have h2 := hull_zero hL 0
  omega
/-- closed under the greatest and the least of two -/
def Clo (d : Int) (F : List (List Int)) (G : List Int → Prop) : Prop := ∀ a ∈ F, ∀ b ∈ F, ∀ t : Int, -d ≤ t → t ≤ d → G (cmax a b t) ∧ G (cmin a b t)
/-- some of the settings, agreeing with x at the point i: their least -/
def leastAt (M : List (List Int)) (x : List Int) (i p : Nat) : Int := least (M.map fun s => s.getD p 0 - s.getD i 0) + x.getD i 0
theorem clo_all {L F : List (List Int)} {n : Nat} (hn : 0 < n) (hL : L ≠ []) (hl : ∀ s ∈ L, s.length = n) (hF : ∀ x ∈ F, Lv L n x) (hs : ∀ s ∈ L, level s ∈ F) (hc : Clo (2 * farOf L) F (· ∈ F)) {x : List Int} (hx : Lv L n x) : x ∈ F := by
  have z0 : ∀ a ∈ F, a.getD 0 0 = 0 := fun a ha => (hF a ha).zero
  have least_cons : ∀ (v : Int) (vs : List Int), vs ≠ [] → least (v :: vs) = min v (least vs) := fun v vs h => by
    have h1 := least_mem (ns := v :: vs) (by simp)
    have h2 := least_mem h
    have h3 : least (v :: vs) ≤ v := least_le (by simp)
    have h4 : least (v :: vs) ≤ least vs := least_le (by simp [h2])
    rcases List.mem_cons.mp h1 with e | e
    · omega
    · have := least_le e
      omega
  have most_cons : ∀ (v : Int) (vs : List Int), vs ≠ [] → most (v :: vs) = max v (most vs) := fun v vs h => by
    have h1 := most_mem (ns := v :: vs) (by simp)
    have h2 := most_mem h
    have h3 : v ≤ most (v :: vs) := le_most (by simp)
    have h4 : most vs ≤ most (v :: vs) := le_most (by simp [h2])
    rcases List.mem_cons.mp h1 with e | e
    · omega
    · have := le_most e
      omega
  have least_one : ∀ v : Int, least [v] = v := fun v => by have := least_mem (ns := [v]) (by simp); simpa using this
  have most_one : ∀ v : Int, most [v] = v := fun v => by have := most_mem (ns := [v]) (by simp); simpa using this
  -- the least ones
  have mins : ∀ (i : Nat), i < n → ∀ M : List (List Int), M ≠ [] → (∀ s ∈ M, s ∈ L) → ∃ a ∈ F, ∃ c : Int, ∀ p, p < n → a.getD p 0 + c = leastAt M x i p := by
    intro i hi M
    induction M with
    | nil => intro h; exact absurd rfl h
    | cons s M ih =>
      intro _ hM
      have hsL := hM s (by simp)
      have ls := hl s hsL
      by_cases e : M = []
      · subst e
        refine ⟨level s, hs s hsL, s.getD 0 0 - s.getD i 0 + x.getD i 0, fun p hp => ?_⟩
        rw [level_at (by omega)]
        unfold leastAt
        rw [List.map_cons, List.map_nil, least_one]
        omega
      · obtain ⟨a, ha, c, hac⟩ := ih e fun s h => hM s (by simp [h])
        have la := (hF a ha).len
        have hb := hs s hsL
        have key := hac i hi
        have e1 : leastAt M x i i = x.getD i 0 := by
          unfold leastAt
          have ne : (M.map fun s => s.getD i 0 - s.getD i 0) ≠ [] := by simpa using e
          obtain ⟨u, _, hu⟩ := List.mem_map.mp (least_mem ne)
          omega
        have f1 := lv_far hL hl (hF a ha) hi
        have f2 := lv_far hL hl (hF _ hb) hi
        rw [level_at (by omega)] at f2
        have g := (hc a ha _ hb (s.getD 0 0 - s.getD i 0 + x.getD i 0 - c) (by omega) (by omega)).2
        refine ⟨_, g, c + min (a.getD 0 0) ((level s).getD 0 0 + (s.getD 0 0 - s.getD i 0 + x.getD i 0 - c)), fun p hp => ?_⟩
        rw [cmin_at (by omega), level_at (by omega), level_at (by omega)]
        have hp2 := hac p hp
        unfold leastAt at hp2 ⊢
        rw [List.map_cons, least_cons _ _ (by simpa using e)]
        omega
  have yi : ∀ i p, leastAt L x i p = hullE L i p + x.getD i 0 := fun i p => rfl
  -- the greatest of these
  have maxs : ∀ I : List Nat, I ≠ [] → (∀ i ∈ I, i < n) → ∃ a ∈ F, ∃ c : Int, ∀ p, p < n → a.getD p 0 + c = most (I.map fun i => leastAt L x i p) := by
    intro I
    induction I with
    | nil => intro h; exact absurd rfl h
    | cons i I ih =>
      intro _ hI
      have hi := hI i (by simp)
      obtain ⟨b, hb, d, hbd⟩ := mins i hi L hL fun s h => h
      by_cases e : I = []
      · subst e
        refine ⟨b, hb, d, fun p hp => ?_⟩
        rw [List.map_cons, List.map_nil, most_one]
        exact hbd p hp
      · obtain ⟨a, ha, c, hac⟩ := ih e fun s h => hI s (by simp [h])
        have la := (hF a ha).len
        have za := z0 a ha
        have zb := z0 b hb
        have k1 := hac 0 hn
        have k2 := hbd 0 hn
        have bd : ∀ j, j < n → -(2 * farOf L) ≤ leastAt L x j 0 ∧ leastAt L x j 0 ≤ 0 := fun j hj => by
          rw [yi]
          have h1 := hullE_far hL hl hj hn
          have h2 := lv_far hL hl hx hj
          have h3 := keeps_hull.mp hx.kp j 0 hj hn
          have h4 := hx.zero
          omega
        have b1 := bd i hi
        have ne : (I.map fun i => leastAt L x i 0) ≠ [] := by simpa using e
        obtain ⟨j, hj, ej⟩ := List.mem_map.mp (most_mem ne)
        have b2 := bd j (hI j (by simp [hj]))
        rw [ej] at b2
        have g := (hc a ha b hb (d - c) (by omega) (by omega)).1
        refine ⟨_, g, c + max (a.getD 0 0) (b.getD 0 0 + (d - c)), fun p hp => ?_⟩
        rw [cmax_at (by omega), List.map_cons, most_cons _ _ (by simpa using e), ← hac p hp, ← hbd p hp]
        omega
  obtain ⟨a, ha, c, h⟩ := maxs (List.range n) (by simp; omega) fun i hi => List.mem_range.mp hi
  have top : ∀ p, p < n → most ((List.range n).map fun i => leastAt L x i p) = x.getD p 0 := fun p hp => by
    have h1 : leastAt L x p p ≤ most ((List.range n).map fun i => leastAt L x i p) := le_most (List.mem_map.mpr ⟨p, List.mem_range.mpr hp, rfl⟩)
    have ne : ((List.range n).map fun i => leastAt L x i p) ≠ [] := by simp; omega
    obtain ⟨j, hj, ej⟩ := List.mem_map.mp (most_mem ne)
    have h2 := keeps_hull.mp hx.kp j p (List.mem_range.mp hj) hp
    rw [yi] at h1 ej
    have h3 := hull_zero hL p
    omega
  have hz := h 0 hn
  rw [top 0 hn, z0 a ha, hx.zero] at hz
  have : x = a := ext_getD (n := n) hx.len (hF a ha).len fun p hp => by
    have := h p hp
    rw [top p hp] at this
    omega
  rw [this]
  exact ha
end T17
namespace T17
open PySem PySem.Spec PyProof.Rows L2 Fx
/-! ### plain: the turns -/
def push (F : List (List Int)) (G : List (List Int)) (c : List Int) : List (List Int) := if c ∈ F ∨ c ∈ G then G else G ++ [c]
def pushAll (F : List (List Int)) (cs : List (List Int)) (G : List (List Int)) : List (List Int) := cs.foldl (push F) G
def shifts (d : Int) : List Int := (List.range (2 * d + 1).toNat).map fun i => -d + (i : Nat)
theorem mem_shifts {d t : Int} : t ∈ shifts d ↔ -d ≤ t ∧ t ≤ d := by
  unfold shifts
  rw [List.mem_map]
  constructor
  · rintro ⟨i, hi, rfl⟩
    rw [List.mem_range] at hi
    omega
  · rintro ⟨h1, h2⟩
    exact ⟨(t + d).toNat, by rw [List.mem_range]; omega, by omega⟩
def cands (d : Int) (new : List Int) (F : List (List Int)) : List (List Int) := F.flatMap fun b => (shifts d).flatMap fun t => [cmax new b t, cmin new b t]
def rounds (d : Int) : Nat → List (List Int) → List (List Int) → List (List Int)
  | 0, F, _ => F
  | k + 1, F, G => match G.getLast? with
    | none => F
    | some new => if new ∈ F then rounds d k F G.dropLast else rounds d k (F ++ [new]) (pushAll (F ++ [new]) (cands d new (F ++ [new])) G.dropLast)
theorem push_sub {F G : List (List Int)} {c x : List Int} (h : x ∈ G) : x ∈ push F G c := by
  unfold push
  split
  · exact h
  · exact List.mem_append_left _ h
theorem push_has (F G : List (List Int)) (c : List Int) : c ∈ F ∨ c ∈ push F G c := by
  unfold push
  split
  · assumption
  · exact .inr (by simp)
theorem push_inv {F G : List (List Int)} {c x : List Int} (h : x ∈ push F G c) : x ∈ G ∨ x = c := by
  unfold push at h
  split at h
  · exact .inl h
  · simpa using h
theorem pushAll_sub {F : List (List Int)} {x : List Int} : ∀ (cs G : List (List Int)), x ∈ G → x ∈ pushAll F cs G
  | [], G, h => h
  | c :: cs, G, h => pushAll_sub cs _ (push_sub h)
theorem pushAll_has {F : List (List Int)} {x : List Int} : ∀ (cs G : List (List Int)), x ∈ cs → x ∈ F ∨ x ∈ pushAll F cs G
  | c :: cs, G, h => by
    rcases List.mem_cons.mp h with e | e
    · rw [e]
      rcases push_has F G c with h | h
      · exact .inl h
      · exact .inr (pushAll_sub cs _ h)
    · exact pushAll_has cs _ e
theorem pushAll_inv {F : List (List Int)} {x : List Int} : ∀ (cs G : List (List Int)), x ∈ pushAll F cs G → x ∈ G ∨ x ∈ cs
  | [], G, h => .inl h
  | c :: cs, G, h => by
    rcases pushAll_inv cs _ h with h | h
    · rcases push_inv h with h | h
      · exact .inl h
      · exact .inr (by simp [h])
    · exact .inr (by simp [h])
/-- what may still come -/
def rest (U F G : List (List Int)) : Nat := G.length + (U.filter fun u => !(decide (u ∈ F) || decide (u ∈ G))).length
theorem filter_lt {U : List (List Int)} {p q : List Int → Bool} {c : List Int} (hc : c ∈ U) (hp : p c = true) (hq : q c = false) (h : ∀ u, q u = true → p u = true) : (U.filter q).length + 1 ≤ (U.filter p).length := by
  have e : U.filter q = (U.filter p).filter q := by
    rw [List.filter_filter]
    apply List.filter_congr
    intro x _
    cases hx : q x with
    | false => simp
    | true => simp [h x hx]
  rw [e]
  exact List.length_filter_lt_length_iff_exists.mpr ⟨c, List.mem_filter.mpr ⟨hc, hp⟩, by simp [hq]⟩
theorem rest_push {U F G : List (List Int)} {c : List Int} (hc : c ∈ U) : rest U F (push F G c) ≤ rest U F G := by
  unfold push
  split
  · exact Nat.le_refl _
  · rename_i h
    unfold rest
    have := filter_lt (U := U) (p := fun u => !(decide (u ∈ F) || decide (u ∈ G))) (q := fun u => !(decide (u ∈ F) || decide (u ∈ G ++ [c]))) hc (by simp at h; simp [h]) (by simp) fun u hu => by
      simp at hu ⊢
      exact ⟨hu.1, hu.2.1⟩
    rw [List.length_append, List.length_singleton]
    omega
theorem rest_pushAll {U F : List (List Int)} : ∀ (cs G : List (List Int)), (∀ c ∈ cs, c ∈ U) → rest U F (pushAll F cs G) ≤ rest U F G
  | [], G, _ => Nat.le_refl _
  | c :: cs, G, h => Nat.le_trans (rest_pushAll cs _ fun x hx => h x (by simp [hx])) (rest_push (h c (by simp)))
theorem rest_zero {U F G : List (List Int)} (h : rest U F G = 0) : G = [] := by
  unfold rest at h
  exact List.eq_nil_of_length_eq_zero (by omega)
structure RInv (L : List (List Int)) (n : Nat) (d : Int) (F G : List (List Int)) : Prop where
  nd : F.Nodup
  lv : ∀ x, x ∈ F ∨ x ∈ G → Lv L n x
  has : ∀ s ∈ L, level s ∈ F ∨ level s ∈ G
  clo : Clo d F fun x => x ∈ F ∨ x ∈ G
theorem last_split {G : List (List Int)} {new : List Int} (h : G.getLast? = some new) : G = G.dropLast ++ [new] := by
  obtain ⟨ys, rfl⟩ := List.getLast?_eq_some_iff.mp h
  simp
theorem rounds_inv {L U : List (List Int)} {n : Nat} {d : Int} (hn : 0 < n) (hU : ∀ x, Lv L n x → x ∈ U) : ∀ (k : Nat) (F G : List (List Int)), RInv L n d F G → rest U F G ≤ k → RInv L n d (rounds d k F G) []
  | 0, F, G, I, h => by
    have := rest_zero (Nat.le_zero.mp h)
    subst this
    exact I
  | k + 1, F, G, I, h => by
    unfold rounds
    cases e : G.getLast? with
    | none =>
      have := List.getLast?_eq_none_iff.mp e
      subst this
      exact I
    | some new =>
      have eG := last_split e
      generalize G.dropLast = G0 at *
      subst eG
      dsimp only
      have mem : ∀ x, x ∈ F ∨ x ∈ G0 ++ [new] ↔ x ∈ F ++ [new] ∨ x ∈ G0 := fun x => by
        simp only [List.mem_append, List.mem_singleton]
        constructor
        · rintro (h | h | h)
          · exact .inl (.inl h)
          · exact .inr h
          · exact .inl (.inr h)
        · rintro ((h | h) | h)
          · exact .inl h
          · exact .inr (.inr h)
          · exact .inr (.inl h)
      split
      · rename_i hnew
        have m2 : ∀ x, x ∈ F ∨ x ∈ G0 ++ [new] ↔ x ∈ F ∨ x ∈ G0 := fun x => by
          simp only [List.mem_append, List.mem_singleton]
          constructor
          · rintro (h | h | h)
            · exact .inl h
            · exact .inr h
            · exact .inl (by rw [h]; exact hnew)
          · rintro (h | h)
            · exact .inl h
            · exact .inr (.inl h)
        refine rounds_inv hn hU k F G0 ⟨I.nd, fun x hx => I.lv x ((m2 x).mpr hx), fun s hs => (m2 _).mp (I.has s hs), fun a ha b hb t h1 h2 => ⟨(m2 _).mp (I.clo a ha b hb t h1 h2).1, (m2 _).mp (I.clo a ha b hb t h1 h2).2⟩⟩ ?_
        unfold rest at h ⊢
        have ef : (U.filter fun u => !(decide (u ∈ F) || decide (u ∈ G0 ++ [new]))) = U.filter fun u => !(decide (u ∈ F) || decide (u ∈ G0)) := by
          apply List.filter_congr
          intro x _
          have := m2 x
          by_cases h1 : x ∈ F ∨ x ∈ G0
          · have h2 := this.mpr h1
            rw [← Bool.decide_or, ← Bool.decide_or, decide_eq_true h1, decide_eq_true h2]
          · have h2 : ¬ (x ∈ F ∨ x ∈ G0 ++ [new]) := fun q => h1 (this.mp q)
            rw [← Bool.decide_or, ← Bool.decide_or, decide_eq_false h1, decide_eq_false h2]
        rw [ef, List.length_append, List.length_singleton] at h
        omega
      · rename_i hnew
        have hlv : Lv L n new := I.lv new (.inr (by simp))
        have lvF : ∀ x ∈ F ++ [new], Lv L n x := fun x hx => I.lv x ((mem x).mpr (.inl hx))
        have lvc : ∀ c ∈ cands d new (F ++ [new]), Lv L n c := fun c hc => by
          unfold cands at hc
          obtain ⟨b, hb, hc⟩ := List.mem_flatMap.mp hc
          obtain ⟨t, ht, hc⟩ := List.mem_flatMap.mp hc
          have lb := lvF b hb
          rcases List.mem_cons.mp hc with e | hc
          · rw [e]; exact lv_cmax hn hlv lb
          · rw [List.mem_singleton.mp hc]; exact lv_cmin hn hlv lb
        generalize hP : pushAll (F ++ [new]) (cands d new (F ++ [new])) G0 = P
        have sub : ∀ x, x ∈ F ∨ x ∈ G0 ++ [new] → x ∈ F ++ [new] ∨ x ∈ P := fun x hx => by
          rcases (mem x).mp hx with h | h
          · exact .inl h
          · rw [← hP]; exact .inr (pushAll_sub _ _ h)
        have got : ∀ b ∈ F ++ [new], ∀ t : Int, -d ≤ t → t ≤ d → (cmax new b t ∈ F ++ [new] ∨ cmax new b t ∈ P) ∧ (cmin new b t ∈ F ++ [new] ∨ cmin new b t ∈ P) := fun b hb t h1 h2 => by
          have hh : ∀ c, c ∈ [cmax new b t, cmin new b t] → c ∈ F ++ [new] ∨ c ∈ P := fun c hc => by
            rw [← hP]
            exact pushAll_has _ _ (List.mem_flatMap.mpr ⟨b, hb, List.mem_flatMap.mpr ⟨t, mem_shifts.mpr ⟨h1, h2⟩, hc⟩⟩)
          exact ⟨hh _ (by simp), hh _ (by simp)⟩
        refine rounds_inv hn hU k _ P ⟨?_, fun x hx => ?_, fun s hs => sub _ (I.has s hs), ?_⟩ ?_
        · rw [List.nodup_append]
          exact ⟨I.nd, by simp, fun a ha b hb e => hnew (by rw [List.mem_singleton] at hb; rw [← hb, ← e]; exact ha)⟩
        · rcases hx with h | h
          · exact lvF x h
          · rw [← hP] at h
            rcases pushAll_inv _ _ h with h | h
            · exact I.lv x ((mem x).mpr (.inr h))
            · exact lvc x h
        · intro a ha b hb t h1 h2
          rcases List.mem_append.mp ha with ha' | ha'
          · rcases List.mem_append.mp hb with hb' | hb'
            · have := I.clo a ha' b hb' t h1 h2
              exact ⟨sub _ this.1, sub _ this.2⟩
            · rw [List.mem_singleton] at hb'
              subst hb'
              have := got a ha (-t) (by omega) (by omega)
              rw [cmax_comm (lvF a ha).len hlv.len, cmin_comm (lvF a ha).len hlv.len]
              exact this
          · rw [List.mem_singleton] at ha'
            subst ha'
            exact got b hb t h1 h2
        · have h1 := rest_pushAll (U := U) (F := F ++ [new]) (cands d new (F ++ [new])) G0 fun c hc => hU c (lvc c hc)
          rw [hP] at h1
          have h2 : rest U (F ++ [new]) G0 + 1 ≤ rest U F (G0 ++ [new]) := by
            unfold rest
            have ef : (U.filter fun u => !(decide (u ∈ F) || decide (u ∈ G0 ++ [new]))) = U.filter fun u => !(decide (u ∈ F ++ [new]) || decide (u ∈ G0)) := by
              apply List.filter_congr
              intro x _
              have := mem x
              by_cases h1 : x ∈ F ++ [new] ∨ x ∈ G0
              · have h2 := this.mpr h1
                rw [← Bool.decide_or, ← Bool.decide_or, decide_eq_true h1, decide_eq_true h2]
              · have h2 : ¬ (x ∈ F ∨ x ∈ G0 ++ [new]) := fun q => h1 (this.mp q)
                rw [← Bool.decide_or, ← Bool.decide_or, decide_eq_false h1, decide_eq_false h2]
            rw [ef, List.length_append, List.length_singleton]
            omega
          omega
theorem round_mem {L U : List (List Int)} {n : Nat} {k : Nat} (hn : 0 < n) (hL : L ≠ []) (hl : ∀ s ∈ L, s.length = n) (hU : ∀ x, Lv L n x → x ∈ U) (hk : L.length + U.length ≤ k) : (rounds (2 * farOf L) k [] (L.map level)).Nodup ∧ ∀ x, x ∈ rounds (2 * farOf L) k [] (L.map level) ↔ Lv L n x := by
  have I : RInv L n (2 * farOf L) [] (L.map level) := ⟨List.nodup_nil, fun x hx => by
    rcases hx with h | h
    · simp at h
    · obtain ⟨s, hs, rfl⟩ := List.mem_map.mp h
      exact lv_level hn hs (hl s hs), fun s hs => .inr (List.mem_map.mpr ⟨s, hs, rfl⟩), fun a ha => by simp at ha⟩
  have J := rounds_inv hn hU k _ _ I (by
    unfold rest
    rw [List.length_map]
    have := List.length_filter_le (fun u => !(decide (u ∈ ([] : List (List Int))) || decide (u ∈ L.map level))) U
    omega)
  refine ⟨J.nd, fun x => ⟨fun h => J.lv x (.inl h), fun h => ?_⟩⟩
  exact clo_all hn hL hl (fun x hx => J.lv x (.inl hx)) (fun s hs => by simpa using J.has s hs) (fun a ha b hb t h1 h2 => by simpa using J.clo a ha b hb t h1 h2) h
end T17
namespace T17
open PySem PySem.Spec PyProof.Rows L2 Fx
/-! ### plain: all settings within a box -/
def rngI (lo hi : Int) : List Int := (List.range (hi - lo).toNat).map fun i => lo + (i : Nat)
theorem mem_rngI {lo hi x : Int} : x ∈ rngI lo hi ↔ lo ≤ x ∧ x < hi := by
  unfold rngI
  rw [List.mem_map]
  constructor
  · rintro ⟨i, hi, rfl⟩
    rw [List.mem_range] at hi
    omega
  · rintro ⟨h1, h2⟩
    exact ⟨(x - lo).toNat, by rw [List.mem_range]; omega, by omega⟩
theorem nodup_rngI (lo hi : Int) : (rngI lo hi).Nodup := by
  unfold rngI
  rw [List.nodup_iff_pairwise_ne, List.pairwise_map]
  exact (List.nodup_iff_pairwise_ne.mp List.nodup_range).imp fun h e => h (by omega)
def ent (R : List (List Int)) (a t : Nat) : Int := (R.getD a []).getD t 0
def ext1 (R : List (List Int)) (p : Nat) (s : List Int) : List (List Int) := (rngI (ent R 0 p) (1 - ent R p 0)).map fun v => s ++ [v]
def extF (R : List (List Int)) (p : Nat) (F : List (List Int)) : List (List Int) := F.flatMap (ext1 R p)
def allF (R : List (List Int)) (m : Nat) : List (List Int) := (List.range m).foldl (fun F i => extF R (i + 1) F) [[0]]
theorem allF_succ (R : List (List Int)) (m : Nat) : allF R (m + 1) = extF R (m + 1) (allF R m) := by
  unfold allF
  rw [List.range_succ, List.foldl_append]
  rfl
theorem mem_allF {R : List (List Int)} : ∀ (m : Nat) (x : List Int), x ∈ allF R m ↔ x.length = m + 1 ∧ x.getD 0 0 = 0 ∧ ∀ p, p < m → ent R 0 (p + 1) ≤ x.getD (p + 1) 0 ∧ x.getD (p + 1) 0 < 1 - ent R (p + 1) 0
  | 0, x => by
    show x ∈ [[0]] ↔ _
    rw [List.mem_singleton]
    constructor
    · rintro rfl
      exact ⟨rfl, rfl, fun p hp => absurd hp (Nat.not_lt_zero _)⟩
    · rintro ⟨h1, h2, _⟩
      match x, h1 with
      | [y], _ =>
        have : y = 0 := h2
        rw [this]
  | m + 1, x => by
    rw [allF_succ]
    unfold extF ext1
    rw [List.mem_flatMap]
    constructor
    · rintro ⟨s, hs, hx⟩
      obtain ⟨v, hv, rfl⟩ := List.mem_map.mp hx
      rw [mem_rngI] at hv
      obtain ⟨h1, h2, h3⟩ := (mem_allF m s).mp hs
      have g : ∀ q, q < m + 1 → (s ++ [v]).getD q 0 = s.getD q 0 := fun q hq => by
        rw [List.getD_eq_getElem?_getD, List.getElem?_append_left (by omega), ← List.getD_eq_getElem?_getD]
      refine ⟨by simp [h1], by rw [g 0 (by omega)]; exact h2, fun p hp => ?_⟩
      by_cases e : p = m
      · subst e
        have : (s ++ [v]).getD (p + 1) 0 = v := by
          rw [List.getD_eq_getElem?_getD, List.getElem?_append_right (by omega), h1]
          simp
        rw [this]
        exact hv
      · rw [g (p + 1) (by omega)]
        exact h3 p (by omega)
    · rintro ⟨h1, h2, h3⟩
      obtain ⟨s, v, rfl⟩ : ∃ s v, x = s ++ [v] := ⟨x.dropLast, x.getLast (by intro z; rw [z] at h1; simp at h1), (List.dropLast_concat_getLast _).symm⟩
      have ls : s.length = m + 1 := by simpa using h1
      have g : ∀ q, q < m + 1 → (s ++ [v]).getD q 0 = s.getD q 0 := fun q hq => by
        rw [List.getD_eq_getElem?_getD, List.getElem?_append_left (by omega), ← List.getD_eq_getElem?_getD]
      have gv : (s ++ [v]).getD (m + 1) 0 = v := by
        rw [List.getD_eq_getElem?_getD, List.getElem?_append_right (by omega), ls]
        simp
      refine ⟨s, (mem_allF m s).mpr ⟨ls, by rw [← g 0 (by omega)]; exact h2, fun p hp => by rw [← g (p + 1) (by omega)]; exact h3 p (by omega)⟩, List.mem_map.mpr ⟨v, ?_, rfl⟩⟩
      rw [mem_rngI, ← gv]
      exact h3 m (by omega)
theorem nodup_allF {R : List (List Int)} : ∀ m : Nat, (allF R m).Nodup
  | 0 => by show [[(0 : Int)]].Nodup; simp
  | m + 1 => by
    rw [allF_succ]
    unfold extF
    have ih := nodup_allF (R := R) m
    rw [List.nodup_iff_pairwise_ne, List.pairwise_flatMap]
    refine ⟨fun s _ => ?_, (List.nodup_iff_pairwise_ne.mp ih).imp ?_⟩
    · unfold ext1
      rw [List.pairwise_map]
      exact (List.nodup_iff_pairwise_ne.mp (nodup_rngI _ _)).imp fun h e => h (by simpa using e)
    · intro a b h x hx y hy e
      unfold ext1 at hx hy
      obtain ⟨v, _, rfl⟩ := List.mem_map.mp hx
      obtain ⟨w, _, rfl⟩ := List.mem_map.mp hy
      exact h (List.append_inj_left' e rfl)
theorem len_flat {α β : Type} {f : α → List β} {k : Nat} : ∀ l : List α, (∀ a ∈ l, (f a).length ≤ k) → (l.flatMap f).length ≤ k * l.length
  | [], _ => by simp
  | a :: l, h => by
    have := len_flat l fun b hb => h b (by simp [hb])
    have h2 := h a (by simp)
    rw [List.flatMap_cons, List.length_append, List.length_cons, Nat.mul_succ]
    omega
theorem len_allF {R : List (List Int)} {k : Nat} : ∀ m : Nat, (∀ p, p < m → (1 - ent R (p + 1) 0 - ent R 0 (p + 1)) ≤ (k : Int)) → (allF R m).length ≤ k ^ m
  | 0, _ => by show [[(0 : Int)]].length ≤ _; simp
  | m + 1, h => by
    rw [allF_succ]
    unfold extF
    have ih := len_allF (R := R) (k := k) m fun p hp => h p (by omega)
    have h1 := len_flat (f := ext1 R (m + 1)) (k := k) (allF R m) fun s _ => by
      unfold ext1 rngI
      rw [List.length_map, List.length_map, List.length_range]
      have := h m (by omega)
      omega
    have h2 := Nat.mul_le_mul_left k ih
    rw [Nat.pow_succ, Nat.mul_comm]
    omega
/-- all settings with the first number 0 that keep the hull -/
theorem all_mem {L : List (List Int)} {n : Nat} (hn : 0 < n) : ((allF (hull L n) (n - 1)).filter (keeps (hull L n))).Nodup ∧ ∀ x, x ∈ (allF (hull L n) (n - 1)).filter (keeps (hull L n)) ↔ Lv L n x := by
  refine ⟨List.Pairwise.filter _ (nodup_allF _), fun x => ?_⟩
  rw [List.mem_filter, mem_allF]
  constructor
  · rintro ⟨⟨h1, h2, _⟩, h3⟩
    exact ⟨by omega, h2, h3⟩
  · intro h
    refine ⟨⟨by rw [h.len]; omega, h.zero, fun p hp => ?_⟩, h.kp⟩
    have e1 : ent (hull L n) 0 (p + 1) = hullE L 0 (p + 1) := hull_at hn (by omega)
    have e2 : ent (hull L n) (p + 1) 0 = hullE L (p + 1) 0 := hull_at (by omega) hn
    have h1 := keeps_hull.mp h.kp 0 (p + 1) hn (by omega)
    have h2 := keeps_hull.mp h.kp (p + 1) 0 (by omega) hn
    have := h.zero
    rw [e1, e2]
    omega
/-! ### two sorted lists with the same items -/
theorem sorted_same {r : List Int → List Int → Prop} (asym : ∀ a b, r a b → r b a → a = b) : ∀ (A B : List (List Int)), A.Pairwise r → B.Pairwise r → A.Nodup → B.Nodup → (∀ x, x ∈ A ↔ x ∈ B) → A = B
  | [], B, _, _, _, _, h => by
    cases B with
    | nil => rfl
    | cons b B => exact absurd ((h b).mpr (by simp)) (by simp)
  | a :: A, [], _, _, _, _, h => absurd ((h a).mp (by simp)) (by simp)
  | a :: A, b :: B, pa, pb, na, nb, h => by
    rw [List.pairwise_cons] at pa pb
    rw [List.nodup_cons] at na nb
    have e : a = b := by
      rcases List.mem_cons.mp ((h a).mp (by simp)) with e | ha
      · exact e
      · rcases List.mem_cons.mp ((h b).mpr (by simp)) with e | hb
        · exact e.symm
        · exact asym a b (pa.1 b hb) (pb.1 a ha)
    subst e
    rw [sorted_same asym A B pa.2 pb.2 na.2 nb.2 fun x => ?_]
    have := h x
    constructor
    · intro hx
      rcases List.mem_cons.mp (this.mp (by simp [hx])) with e | hb
      · rw [e] at hx; exact absurd hx na.1
      · exact hb
    · intro hx
      rcases List.mem_cons.mp (this.mpr (by simp [hx])) with e | hb
      · rw [e] at hx; exact absurd hx nb.1
      · exact hb
/-- the places in the order of what stands there -/
def srtL (A : List (List Int)) : List (List Int) := ((List.range A.length).mergeSort fun i j => decide (A.getD i [] ≤ A.getD j [])).map fun i => A.getD i []
theorem srtL_perm (A : List (List Int)) : (srtL A).Perm A := by
  unfold srtL
  have h := (List.mergeSort_perm (List.range A.length) fun i j => decide (A.getD i [] ≤ A.getD j [])).map fun i => A.getD i []
  refine h.trans (List.Perm.of_eq ?_)
  apply List.ext_getElem
  · simp
  · intro i h1 h2
    simp [List.getD_eq_getElem?_getD, h2]
theorem srtL_sorted (A : List (List Int)) : (srtL A).Pairwise fun a b => a ≤ b := by
  unfold srtL
  rw [List.pairwise_map]
  have := List.pairwise_mergeSort (le := fun i j : Nat => decide (A.getD i [] ≤ A.getD j [])) (fun a b c h1 h2 => by
    simp only [decide_eq_true_eq] at h1 h2 ⊢
    exact List.le_trans h1 h2) (fun a b => by
    simp only [Bool.or_eq_true, decide_eq_true_eq]
    exact List.le_total _ _) (List.range A.length)
  exact this.imp fun h => by simpa using h
theorem srtL_same {A B : List (List Int)} (ha : A.Nodup) (hb : B.Nodup) (h : ∀ x, x ∈ A ↔ x ∈ B) : srtL A = srtL B := by
  have pa := srtL_perm A
  have pb := srtL_perm B
  exact sorted_same (r := fun a b => a ≤ b) (fun a b h1 h2 => List.le_antisymm h1 h2) _ _ (srtL_sorted A) (srtL_sorted B) (pa.nodup_iff.mpr ha) (pb.nodup_iff.mpr hb) fun x => by
    rw [pa.mem_iff, pb.mem_iff]
    exact h x
end T17
namespace T17
open PySem PySem.Spec PyProof.Rows L2 Fx
/-- a tuple against the empty one -/
theorem v_nilT {S : Store} {l : List Val} {ds : List PyData} (k : Bool) (hp : toPyL l = some ds) (hs : SeqAt.shaped (.tuple ds) = true) : vEqN k (.tup l) (.tup []) S = some (.bl (if k then !l.isEmpty else l.isEmpty), S) := by
  show (pyOf S (.tup l)).bind _ = _
  have e1 : pyOf S (.tup l) = some (.tuple ds) := by
    unfold pyOf topV
    show toPy (.tup l) = _
    unfold toPy
    rw [hp]
    rfl
  have e2 : pyOf S (.tup []) = some (.tuple []) := by
    unfold pyOf topV toPy toPyL
    rfl
  rw [e1, e2]
  show (if (SeqAt.shaped _ && SeqAt.shaped _) = true then _ else _) = _
  rw [hs, if_pos (by rfl)]
  have e3 : PyData.eqv (.tuple ds) (.tuple []) = l.isEmpty := by
    rw [PyData.eqv]
    cases l with
    | nil =>
      rw [toPyL] at hp
      cases hp
      rfl
    | cons x l =>
      cases ds with
      | nil =>
        rw [toPyL] at hp
        cases q : toPy x with
        | none => rw [q] at hp; cases hp
        | some p =>
          rw [q] at hp
          cases q2 : toPyL l with
          | none => rw [q2] at hp; cases hp
          | some p2 => rw [q2] at hp; cases hp
      | cons _ _ => rfl
  rw [e3]
theorem shaped_pks (ps : List Pk) : SeqAt.shaped (.tuple (ps.map pkP)) = true := by
  have := depth_map depth_pk ps
  unfold SeqAt.shaped
  rw [PyData.canLay0, lay_map lay_pk ps, decide_eq_true (show PyData.depth _ ≤ 64 by rw [PyData.depth]; omega)]
  rfl
theorem shaped_picks (pp : List (List Pk)) : SeqAt.shaped (.tuple (pp.map pksP)) = true := by
  have := depth_map depth_pks pp
  unfold SeqAt.shaped
  rw [PyData.canLay0, lay_map lay_pks pp, decide_eq_true (show PyData.depth _ ≤ 64 by rw [PyData.depth]; omega)]
  rfl
theorem call_are {L : List (List Int)} {pp : List (List Pk)} {S : Store} (w : Wf S) (P : PkOk L pp) : M__law_are_picks [tR L, picksV pp] S = some (.bl true, S) := by
  have sz : ∀ k, k ≤ 1000 → k ≤ sizeLine := fun k h => by rw [sizeLine_eq]; omega
  have n1 : vEqN false (picksV pp) (.tup []) S = some (.bl false, S) := by
    have := v_nilT (S := S) false (toPyL_map toPy_pks pp) (shaped_picks pp)
    unfold picksV
    rw [this]
    cases pp with
    | nil => exact absurd rfl P.ne
    | cons _ _ => rfl
  have isT : vIsi [picksV pp, .raw (.ty "tuple")] S = some (.bl true, S) := isi_tup ..
  have isP : ∀ ps, vIsi [pksV ps, .raw (.ty "tuple")] S = some (.bl true, S) := fun ps => isi_tup ..
  have isQ : ∀ q, vIsi [pkV q, .raw (.ty "tuple")] S = some (.bl true, S) := fun q => isi_tup ..
  have l1 : ∀ (o2 o3 : Option Val), lcL (gN 2) (mYes) (mAndV (mCall vIsi (mCons (mVar 2) (mCons (mC (.raw (.ty "tuple"))) (mNil)))) (mBin vNe (mVar 2) (mTup (mNil)))) [some (tR L), some (picksV pp), o2, o3] (pp.map pksV) S = some ((pp.map fun _ => true).map Val.bl, S) := fun o2 o3 =>
    lc_map2 pksV Val.bl (fun _ => true) pp fun ps hps => by
      refine ⟨_, s_gn .., ?_⟩
      have n2 : vEqN true (pksV ps) (.tup []) S = some (.bl true, S) := by
        have := v_nilT (S := S) true (toPyL_map toPy_pk ps) (shaped_pks ps)
        unfold pksV
        rw [this]
        cases ps with
        | nil => exact absurd rfl (P.some _ hps)
        | cons _ _ => rfl
      have e0 : 0 ≤ sizeLine := Nat.zero_le _
      simp [isP, n2]
  have l2 : ∀ (ps : List Pk) (o3 : Option Val), lcL (gN 3) (mYes) (mAndV (mCall vIsi (mCons (mVar 3) (mCons (mC (.raw (.ty "tuple"))) (mNil)))) (mBin vEq (mCall vLen (mCons (mVar 3) (mNil))) (mC (.int 2)))) [some (tR L), some (picksV pp), some (pksV ps), o3] (ps.map pkV) S = some ((ps.map fun _ => true).map Val.bl, S) := fun ps o3 =>
    lc_map2 pkV Val.bl (fun _ => true) ps fun q _ => by
      refine ⟨_, s_gn .., ?_⟩
      have ln : vLen [pkV q] S = some (.int 2, S) := rfl
      simp [isQ, ln]
  have l3 : ∀ (ps : List Pk) (o3 : Option Val), ps ∈ pp → lcL (gN 3) (mYes) (mAndV (mCall M__law_is_integer (mCons (mBin vIx (mVar 3) (mC (.int 0))) (mNil))) (mAndV (mCall M__law_is_integer (mCons (mBin vIx (mVar 3) (mC (.int 1))) (mNil))) (mChain vLe vLt (mC (.int 0)) (mBin vIx (mVar 3) (mC (.int 0))) (mCall vLen (mCons (mVar 0) (mNil)))))) [some (tR L), some (picksV pp), some (pksV ps), o3] (ps.map pkV) S = some ((ps.map fun _ => true).map Val.bl, S) := fun ps o3 hps =>
    lc_map2 pkV Val.bl (fun _ => true) ps fun q hq => by
      refine ⟨_, s_gn .., ?_⟩
      have hk := P.ix ps hps q hq
      have i0 : vIx (pkV q) (.int 0) S = some (.int (q.1 : Nat), S) := rfl
      have i1 : vIx (pkV q) (.int 1) S = some (.int q.2, S) := rfl
      have ll := len_tR (L := L) (S := S)
      have c1 : (0 : Int) ≤ (q.1 : Int) := by omega
      have c2 : (q.1 : Int) < (L.length : Int) := by omega
      generalize tR L = r at *
      generalize pkV q = u at *
      simp [i0, i1, call_lisint w, ll, c1, c2]
  have loop : ∀ (qs : List (List Pk)) (o2 o3 : Option Val), (∀ ps ∈ qs, ps ∈ pp) → ∃ o2', forL (gN 2) (mThen (mWhen (mNot (mTru (mCall vAll (mCons (mLc false [3] (mItems (mVar 2)) (gN 3) (mYes) (mAndV (mCall vIsi (mCons (mVar 3) (mCons (mC (.raw (.ty "tuple"))) (mNil)))) (mBin vEq (mCall vLen (mCons (mVar 3) (mNil))) (mC (.int 2))))) (mNil))))) (mRet (mC (.bl false))) (mSkip))
 (mWhen (mNot (mTru (mCall vAll (mCons (mLc false [3] (mItems (mVar 2)) (gN 3) (mYes) (mAndV (mCall M__law_is_integer (mCons (mBin vIx (mVar 3) (mC (.int 0))) (mNil))) (mAndV (mCall M__law_is_integer (mCons (mBin vIx (mVar 3) (mC (.int 1))) (mNil))) (mChain vLe vLt (mC (.int 0)) (mBin vIx (mVar 3) (mC (.int 0))) (mCall vLen (mCons (mVar 0) (mNil))))))) (mNil))))) (mRet (mC (.bl false))) (mSkip)))
      (qs.map pksV) [some (tR L), some (picksV pp), o2, o3] S = some (.nx [some (tR L), some (picksV pp), o2', o3], S) := by
    intro qs
    induction qs with
    | nil => intro o2 o3 _; exact ⟨o2, rfl⟩
    | cons ps qs ih =>
      intro o2 o3 h
      have hps := h ps (by simp)
      obtain ⟨o2', ih⟩ := ih (some (pksV ps)) o3 fun x hx => h x (by simp [hx])
      refine ⟨o2', ?_⟩
      have a2 := l2 ps none
      have a3 := l3 ps none hps
      have it : ∀ o3, mItems (mVar 2) [some (tR L), some (picksV pp), some (pksV ps), o3] S = some (ps.map pkV, S) := fun o3 => by unfold pksV; simp
      have at_ : ((ps.map fun _ => true).all fun b => b) = true := by simp
      have hle : (ps.map fun _ => true).length ≤ sizeLine := by rw [List.length_map]; exact sz _ (P.few2 ps hps)
      generalize (ps.map fun _ => true) = bs at *
      rw [List.map_cons, for_cons, s_gn, bnd_ok, ← ih]
      simp only [List.set_cons_succ, List.set_cons_zero]
      rw [s_then, s_when, s_not, s_tru, s_call, s_cons, s_lc, it, bnd_ok]
      simp only [wipeE, List.set_cons_succ, List.set_cons_zero]
      rw [a2, bnd_ok, if_pos (by rw [List.length_map]; exact hle)]
      simp only [mk_f, bnd_ok, s_nil, v_allF, blsOf_map, Option.map_some, truD, at_, Bool.not_true, Bool.false_eq_true, if_false, s_skip]
      rw [s_when, s_not, s_tru, s_call, s_cons, s_lc, it, bnd_ok]
      simp only [wipeE, List.set_cons_succ, List.set_cons_zero]
      rw [a3, bnd_ok, if_pos (by rw [List.length_map]; exact hle)]
      simp only [mk_f, bnd_ok, s_nil, v_allF, blsOf_map, Option.map_some, truD, at_, Bool.not_true, Bool.false_eq_true, if_false, s_skip]
  obtain ⟨o2, h⟩ := loop pp none none fun _ h => h
  refine gen_id0 ?_ rfl w refLt_bl
  unfold runB m__law_are_picks
  rw [show startE N__law_are_picks [tR L, picksV pp] = [some (tR L), some (picksV pp), none, none] from rfl]
  have it : mItems (mVar 1) [some (tR L), some (picksV pp), none, none] S = some (pp.map pksV, S) := by unfold picksV; simp
  have a1 := l1 none none
  have at_ : ((pp.map fun _ => true).all fun b => b) = true := by simp
  have hle : (pp.map fun _ => true).length ≤ sizeLine := by rw [List.length_map]; exact sz _ P.few
  generalize (pp.map fun _ => true) = bs at *
  have lc : mLc false [2] (mItems (mVar 1)) (gN 2) (mYes) (mAndV (mCall vIsi (mCons (mVar 2) (mCons (mC (.raw (.ty "tuple"))) (mNil)))) (mBin vNe (mVar 2) (mTup (mNil)))) [some (tR L), some (picksV pp), none, none] S = some (.fro (bs.map Val.bl), S) := by
    rw [s_lc, it, bnd_ok]
    simp only [wipeE, List.set_cons_succ, List.set_cons_zero]
    rw [a1, bnd_ok, if_pos (by rw [List.length_map]; exact hle)]
    rfl
  have e0 : 0 ≤ sizeLine := Nat.zero_le _
  have c0 : (mOr (mNot (mTru (mCall vIsi (mCons (mVar 1) (mCons (mC (.raw (.ty "tuple"))) (mNil)))))) (mOr (mTest (mBin vEq (mVar 1) (mTup (mNil)))) (mNot (mTru (mCall vAll (mCons (mLc false [2] (mItems (mVar 1)) (gN 2) (mYes) (mAndV (mCall vIsi (mCons (mVar 2) (mCons (mC (.raw (.ty "tuple"))) (mNil)))) (mBin vNe (mVar 2) (mTup (mNil))))) (mNil))))))) [some (tR L), some (picksV pp), none, none] S = some (false, S) := by
    generalize picksV pp = u at *
    generalize tR L = r at *
    simp [isT, truD, n1, lc, at_, -s_lc]
  rw [s_then, s_when, c0, bnd_ok, if_neg (by decide), s_skip, bnd_ok]
  simp only []
  rw [s_then, s_for, it, bnd_ok, h, bnd_ok]
  simp
end T17
namespace T17
open PySem PySem.Spec PyProof.Rows L2 Fx
/-! ### the law's own mixture: rows folded -/
def zMin (a b : List Int) : List Int := List.zipWith (fun x y => if y < x then y else x) a b
def zMax (a b : List Int) : List Int := List.zipWith (fun x y => if y > x then y else x) a b
theorem zMin_len {a b : List Int} {n : Nat} (h1 : a.length = n) (h2 : b.length = n) : (zMin a b).length = n := by unfold zMin; simp [h1, h2]
theorem zMax_len {a b : List Int} {n : Nat} (h1 : a.length = n) (h2 : b.length = n) : (zMax a b).length = n := by unfold zMax; simp [h1, h2]
theorem zMin_at {a b : List Int} {n p : Nat} (h1 : a.length = n) (h2 : b.length = n) (hp : p < n) : (zMin a b).getD p 0 = min (a.getD p 0) (b.getD p 0) := by
  unfold zMin
  simp [List.getD_eq_getElem?_getD, List.getElem?_zipWith, h1, h2, hp]
  split <;> omega
theorem zMax_at {a b : List Int} {n p : Nat} (h1 : a.length = n) (h2 : b.length = n) (hp : p < n) : (zMax a b).getD p 0 = max (a.getD p 0) (b.getD p 0) := by
  unfold zMax
  simp [List.getD_eq_getElem?_getD, List.getElem?_zipWith, h1, h2, hp]
  split <;> omega
/-- none yet, or the rows so far -/
def stepM (z : List Int → List Int → List Int) (o : Option (List Int)) (x : List Int) : Option (List Int) := some (match o with | none => x | some l => z l x)
def oV : Option (List Int) → Val
  | none => .non
  | some l => .fro (l.map Val.int)
theorem refLt_oV {n : Nat} (o : Option (List Int)) : refLt n (oV o) = true := by cases o <;> simp [oV]
/-- one setting shifted -/
def shiftP (L : List (List Int)) (q : Pk) : List Int := (L.getD q.1 []).map fun x => x + q.2
theorem fold_min {n : Nat} : ∀ (xs : List (List Int)) (l : List Int), l.length = n → (∀ x ∈ xs, x.length = n) → ∃ r, xs.foldl (stepM zMin) (some l) = some r ∧ r.length = n ∧ ∀ p, p < n → r.getD p 0 = (xs.map fun x => x.getD p 0).foldl min (l.getD p 0)
  | [], l, hl, _ => ⟨l, rfl, hl, fun p _ => rfl⟩
  | x :: xs, l, hl, h => by
    have hx := h x (by simp)
    obtain ⟨r, h1, h2, h3⟩ := fold_min xs (zMin l x) (zMin_len hl hx) fun y hy => h y (by simp [hy])
    refine ⟨r, h1, h2, fun p hp => ?_⟩
    rw [h3 p hp, zMin_at hl hx hp]
    rfl
theorem fold_max {n : Nat} : ∀ (xs : List (List Int)) (l : List Int), l.length = n → (∀ x ∈ xs, x.length = n) → ∃ r, xs.foldl (stepM zMax) (some l) = some r ∧ r.length = n ∧ ∀ p, p < n → r.getD p 0 = (xs.map fun x => x.getD p 0).foldl max (l.getD p 0)
  | [], l, hl, _ => ⟨l, rfl, hl, fun p _ => rfl⟩
  | x :: xs, l, hl, h => by
    have hx := h x (by simp)
    obtain ⟨r, h1, h2, h3⟩ := fold_max xs (zMax l x) (zMax_len hl hx) fun y hy => h y (by simp [hy])
    refine ⟨r, h1, h2, fun p hp => ?_⟩
    rw [h3 p hp, zMax_at hl hx hp]
    rfl
theorem row_eq {n : Nat} {r : List Int} {f : Nat → Int} (hr : r.length = n) (h : ∀ p, p < n → r.getD p 0 = f p) : r = (List.range n).map f := by
  apply List.ext_getElem
  · simp [hr]
  · intro p h1 h2
    have := h p (by omega)
    rw [List.getD_eq_getElem?_getD, List.getElem?_eq_getElem h1] at this
    simpa using this
theorem shift_at {L : List (List Int)} {n p : Nat} {q : Pk} (hn : (L.getD q.1 []).length = n) (hp : p < n) : (shiftP L q).getD p 0 = pkE L p q := by
  unfold shiftP pkE
  generalize L.getD q.1 [] = g at *
  have hp' : p < g.length := by omega
  simp [List.getD_eq_getElem?_getD, hp']
/-- the lowest of the shifted settings -/
theorem low_is {L : List (List Int)} {n : Nat} {ps : List Pk} (hn : ∀ q ∈ ps, (L.getD q.1 []).length = n) (ne : ps ≠ []) : (ps.map (shiftP L)).foldl (stepM zMin) none = some ((List.range n).map fun p => psE L p ps) := by
  cases ps with
  | nil => exact absurd rfl ne
  | cons q ps =>
    have lq : (shiftP L q).length = n := by unfold shiftP; rw [List.length_map]; exact hn q (by simp)
    obtain ⟨r, h1, h2, h3⟩ := fold_min (ps.map (shiftP L)) (shiftP L q) lq fun x hx => by
      obtain ⟨q', hq', rfl⟩ := List.mem_map.mp hx
      unfold shiftP
      rw [List.length_map]
      exact hn q' (by simp [hq'])
    rw [List.map_cons, List.foldl_cons]
    show (ps.map (shiftP L)).foldl (stepM zMin) (some (shiftP L q)) = _
    rw [h1]
    congr 1
    refine row_eq h2 fun p hp => ?_
    rw [h3 p hp, shift_at (hn q (by simp)) hp, List.map_map]
    unfold psE least
    rw [List.map_cons]
    show _ = (ps.map (pkE L p)).foldl min (pkE L p q)
    congr 1
    apply List.map_congr_left
    intro q' hq'
    exact shift_at (hn q' (by simp [hq'])) hp
theorem high_is {L : List (List Int)} {n : Nat} {pp : List (List Pk)} (ne : pp ≠ []) : (pp.map fun ps => (List.range n).map fun p => psE L p ps).foldl (stepM zMax) none = some (mix L n pp) := by
  cases pp with
  | nil => exact absurd rfl ne
  | cons ps pp =>
    have at_ : ∀ (ps : List Pk) p, p < n → ((List.range n).map fun p => psE L p ps).getD p 0 = psE L p ps := fun ps p hp => by simp [List.getD_eq_getElem?_getD, hp]
    obtain ⟨r, h1, h2, h3⟩ := fold_max (n := n) (pp.map fun ps => (List.range n).map fun p => psE L p ps) ((List.range n).map fun p => psE L p ps) (by simp) fun x hx => by
      obtain ⟨q', hq', rfl⟩ := List.mem_map.mp hx
      simp
    rw [List.map_cons, List.foldl_cons]
    show (pp.map fun ps => (List.range n).map fun p => psE L p ps).foldl (stepM zMax) (some ((List.range n).map fun p => psE L p ps)) = _
    rw [h1]
    congr 1
    refine row_eq h2 fun p hp => ?_
    rw [h3 p hp, at_ ps p hp, List.map_map]
    unfold mixE most
    rw [List.map_cons]
    show _ = (pp.map (psE L p)).foldl max (psE L p ps)
    congr 1
    apply List.map_congr_left
    intro q' hq'
    exact at_ q' p hp
end T17
namespace T17
open PySem PySem.Spec PyProof.Rows L2 Fx
def prV (p : Int × Int) : Val := .tup [.int p.1, .int p.2]
theorem zip_vals : ∀ (l m : List Int), List.zipWith (fun x y => Val.tup [x, y]) (l.map Val.int) (m.map Val.int) = (l.zip m).map prV
  | [], m => by simp
  | x :: l, [] => by simp
  | x :: l, y :: m => by
    rw [List.map_cons, List.map_cons, List.zipWith_cons_cons, zip_vals l m, List.zip_cons_cons, List.map_cons]
    rfl
theorem zip_map (f : Int → Int → Int) : ∀ (l m : List Int), (l.zip m).map (fun p => f p.1 p.2) = List.zipWith f l m
  | [], m => by simp
  | x :: l, [] => by simp
  | x :: l, y :: m => by rw [List.zip_cons_cons, List.map_cons, zip_map f l m, List.zipWith_cons_cons]
/-- [choose(pair[0], pair[1]) for pair in zip(a, b)] -/
theorem lc_choose {v : MCall} {f : Int → Int → Int} {env : VEnv} {S : Store} {l m : List Int} (hl : l.length ≤ 1000) (a b : ME) (ha : a env S = some (.fro (l.map Val.int), S)) (hb : b env S = some (.fro (m.map Val.int), S)) (h9 : 9 < env.length) (hv : ∀ x y, v [.int x, .int y] S = some (.int (f x y), S)) :
    mLc false [9] (mZipN (mCons a (mCons b (mNil)))) (gN 9) (mYes) (mCall v (mCons (mBin vIx (mVar 9) (mC (.int 0))) (mCons (mBin vIx (mVar 9) (mC (.int 1))) (mNil)))) env S = some (.fro ((List.zipWith f l m).map Val.int), S) := by
  have lc : lcL (gN 9) mYes (mCall v (mCons (mBin vIx (mVar 9) (mC (.int 0))) (mCons (mBin vIx (mVar 9) (mC (.int 1))) (mNil)))) (wipeE env [9]) ((l.zip m).map prV) S = some (((l.zip m).map fun p => f p.1 p.2).map Val.int, S) :=
    lc_map2 prV Val.int (fun p => f p.1 p.2) (l.zip m) fun p _ => by
      refine ⟨_, s_gn .., ?_⟩
      have g9 : ((wipeE env [9]).set 9 (some (prV p)))[9]? = some (some (prV p)) := by
        rw [List.getElem?_set_self]
        unfold wipeE
        rw [List.length_set]
        unfold wipeE
        exact h9
      have i0 : vIx (prV p) (.int 0) S = some (.int p.1, S) := rfl
      have i1 : vIx (prV p) (.int 1) S = some (.int p.2, S) := rfl
      generalize (wipeE env [9]).set 9 (some (prV p)) = e at *
      generalize prV p = u at *
      simp [g9, i0, i1, hv]
  have it : mZipN (mCons a (mCons b (mNil))) env S = some ((l.zip m).map prV, S) := by
    rw [← zip_vals]
    simp [ha, hb]
  rw [s_lc, it, bnd_ok, lc, bnd_ok, zip_map, if_pos]
  · rfl
  · rw [List.length_map, List.length_zipWith, sizeLine_eq]
    omega
theorem call_lmixture {L : List (List Int)} {n : Nat} {pp : List (List Pk)} {S : Store} (w : Wf S) (hn : ∀ s ∈ L, s.length = n) (hz : n ≤ 900) (P : PkOk L pp) : M__law_mixture [tR L, picksV pp] S = some (tI (mix L n pp), S) := by
  have sz : ∀ k, k ≤ 1000 → k ≤ sizeLine := fun k h => by rw [sizeLine_eq]; omega
  have lenAt : ∀ k, k < L.length → (L.getD k []).length = n := fun k hk => hn _ (mem_at hk)
  have inner : ∀ (qs : List Pk) (o : Option (List Int)) (o2 o3 o5 o6 o7 o8 o9 : Option Val), (∀ q ∈ qs, q.1 < L.length) → (∀ l, o = some l → l.length = n) → ∃ o5' o6' o7', forL (gT 2 (gCons' (gN 5) (gCons' (gN 6) (gNil')))) (mThen (mSet (mLc false [8] (mItems (mBin vIx (mVar 0) (mVar 5))) (gN 8) (mYes) (mBin vAdd (mVar 8) (mVar 6))) (gN 7))
 (mSet (mIf (mTest (mBin (vIs false) (mVar 4) (mC .non))) (mVar 7) (mLc false [9] (mZipN (mCons (mVar 4) (mCons (mVar 7) (mNil)))) (gN 9) (mYes) (mCall vMin (mCons (mBin vIx (mVar 9) (mC (.int 0))) (mCons (mBin vIx (mVar 9) (mC (.int 1))) (mNil)))))) (gN 4)))
      (qs.map pkV) [some (tR L), some (picksV pp), o2, o3, some (oV o), o5, o6, o7, o8, o9] S = some (.nx [some (tR L), some (picksV pp), o2, o3, some (oV ((qs.map (shiftP L)).foldl (stepM zMin) o)), o5', o6', o7', o8, o9], S) := by
    intro qs
    induction qs with
    | nil => intro o o2 o3 o5 o6 o7 o8 o9 _ _; exact ⟨o5, o6, o7, rfl⟩
    | cons q qs ih =>
      intro o o2 o3 o5 o6 o7 o8 o9 h ho
      have hk := h q (by simp)
      have hlen := lenAt _ hk
      have hsl : (shiftP L q).length = n := by unfold shiftP; rw [List.length_map]; exact hlen
      obtain ⟨p5, p6, p7, ih⟩ := ih (stepM zMin o (shiftP L q)) o2 o3 (some (.int (q.1 : Int))) (some (.int q.2)) (some (.fro ((shiftP L q).map Val.int))) o8 o9 (fun x hx => h x (by simp [hx])) (fun l hl => by
        unfold stepM at hl
        cases hl
        cases o with
        | none => exact hsl
        | some l0 => exact zMin_len (ho l0 rfl) hsl)
      refine ⟨p5, p6, p7, ?_⟩
      rw [List.map_cons, List.map_cons, List.foldl_cons, ← ih, for_cons]
      unfold pkV
      rw [s_gt, if_pos (by rfl), s_gcons, s_gn, bnd_ok, s_gcons, s_gn, bnd_ok, s_gnil, bnd_ok]
      simp only [List.set_cons_succ, List.set_cons_zero]
      have i1 := ix_tR (S := S) hk
      have it : ∀ o2 o3 o4 o7 o8 o9, mItems (mBin vIx (mVar 0) (mVar 5)) [some (tR L), some (picksV pp), o2, o3, o4, some (.int (q.1 : Int)), some (.int q.2), o7, o8, o9] S = some ((L.getD q.1 []).map Val.int, S) := fun o2 o3 o4 o7 o8 o9 => by
        generalize tR L = r at *
        generalize L.getD q.1 [] = g at *
        unfold tI at i1
        simp [i1]
      have sh : ∀ o2 o3 o4 o7 o8 o9, lcL (gN 8) (mYes) (mBin vAdd (mVar 8) (mVar 6)) [some (tR L), some (picksV pp), o2, o3, o4, some (.int (q.1 : Int)), some (.int q.2), o7, o8, o9] ((L.getD q.1 []).map Val.int) S = some ((shiftP L q).map Val.int, S) := fun o2 o3 o4 o7 o8 o9 =>
        lc_map2 Val.int Val.int (fun x => x + q.2) (L.getD q.1 []) fun x _ => by
          refine ⟨_, s_gn .., ?_⟩
          simp
      rw [s_then, s_set, s_lc, it, bnd_ok]
      simp only [wipeE, List.set_cons_succ, List.set_cons_zero]
      rw [sh, bnd_ok, if_pos (by rw [List.length_map, hsl]; exact sz _ (by omega))]
      simp only [mk_f, bnd_ok, s_gn, List.set_cons_succ, List.set_cons_zero]
      cases o with
      | none =>
        have c : (mTest (mBin (vIs false) (mVar 4) (mC .non))) [some (tR L), some (picksV pp), o2, o3, some (oV none), some (.int (q.1 : Int)), some (.int q.2), some (.fro ((shiftP L q).map Val.int)), o8, o9] S = some (true, S) := by simp [oV]
        rw [s_set, s_if, c, bnd_ok, if_pos rfl, s_var]
        simp only [List.getElem?_cons_succ, List.getElem?_cons_zero, bnd_ok, s_gn, List.set_cons_succ, List.set_cons_zero]
        rfl
      | some l =>
        have c : (mTest (mBin (vIs false) (mVar 4) (mC .non))) [some (tR L), some (picksV pp), o2, o3, some (oV (some l)), some (.int (q.1 : Int)), some (.int q.2), some (.fro ((shiftP L q).map Val.int)), o8, o9] S = some (false, S) := by simp [oV]
        have ch := lc_choose (v := vMin) (f := fun x y => if y < x then y else x) (env := [some (tR L), some (picksV pp), o2, o3, some (oV (some l)), some (.int (q.1 : Int)), some (.int q.2), some (.fro ((shiftP L q).map Val.int)), o8, o9]) (S := S) (l := l) (m := shiftP L q) (by rw [ho l rfl]; omega) (mVar 4) (mVar 7) rfl rfl (by simp) (fun x y => v_min2 ..)
        rw [s_set, s_if, c, bnd_ok, if_neg (by decide), ch]
        simp only [bnd_ok, s_gn, List.set_cons_succ, List.set_cons_zero]
        rfl
  have outer : ∀ (qq : List (List Pk)) (o : Option (List Int)) (o3 o4 o5 o6 o7 o8 o9 : Option Val), (∀ ps ∈ qq, ps ∈ pp) → (∀ l, o = some l → l.length = n) → ∃ o3' o4' o5' o6' o7', forL (gN 3) (mThen (mSet (mC .non) (gN 4))
 (mThen (mFor (mItems (mVar 3)) (gT 2 (gCons' (gN 5) (gCons' (gN 6) (gNil')))) (mThen (mSet (mLc false [8] (mItems (mBin vIx (mVar 0) (mVar 5))) (gN 8) (mYes) (mBin vAdd (mVar 8) (mVar 6))) (gN 7))
 (mSet (mIf (mTest (mBin (vIs false) (mVar 4) (mC .non))) (mVar 7) (mLc false [9] (mZipN (mCons (mVar 4) (mCons (mVar 7) (mNil)))) (gN 9) (mYes) (mCall vMin (mCons (mBin vIx (mVar 9) (mC (.int 0))) (mCons (mBin vIx (mVar 9) (mC (.int 1))) (mNil)))))) (gN 4))))
 (mSet (mIf (mTest (mBin (vIs false) (mVar 2) (mC .non))) (mVar 4) (mLc false [9] (mZipN (mCons (mVar 2) (mCons (mVar 4) (mNil)))) (gN 9) (mYes) (mCall vMax (mCons (mBin vIx (mVar 9) (mC (.int 0))) (mCons (mBin vIx (mVar 9) (mC (.int 1))) (mNil)))))) (gN 2))))
      (qq.map pksV) [some (tR L), some (picksV pp), some (oV o), o3, o4, o5, o6, o7, o8, o9] S = some (.nx [some (tR L), some (picksV pp), some (oV ((qq.map fun ps => (List.range n).map fun p => psE L p ps).foldl (stepM zMax) o)), o3', o4', o5', o6', o7', o8, o9], S) := by
    intro qq
    induction qq with
    | nil => intro o o3 o4 o5 o6 o7 o8 o9 _ _; exact ⟨o3, o4, o5, o6, o7, rfl⟩
    | cons ps qq ih =>
      intro o o3 o4 o5 o6 o7 o8 o9 h ho
      have hps := h ps (by simp)
      have hlow := low_is (L := L) (n := n) (ps := ps) (fun q hq => lenAt _ (P.ix ps hps q hq)) (P.some ps hps)
      obtain ⟨r, hr⟩ : ∃ r, (List.range n).map (fun p => psE L p ps) = r := ⟨_, rfl⟩
      have hrl : r.length = n := by rw [← hr]; simp
      obtain ⟨p5, p6, p7, i⟩ := inner ps none (some (oV o)) (some (pksV ps)) o5 o6 o7 o8 o9 (P.ix ps hps) (fun l hl => by cases hl)
      rw [hlow, hr] at i
      obtain ⟨q3, q4, q5, q6, q7, ih⟩ := ih (stepM zMax o r) (some (pksV ps)) (some (oV (some r))) p5 p6 p7 o8 o9 (fun x hx => h x (by simp [hx])) (fun l hl => by
        unfold stepM at hl
        cases hl
        cases o with
        | none => exact hrl
        | some l0 => exact zMax_len (ho l0 rfl) hrl)
      refine ⟨q3, q4, q5, q6, q7, ?_⟩
      have it : ∀ o2 o4 o5 o6 o7 o8 o9, mItems (mVar 3) [some (tR L), some (picksV pp), o2, some (pksV ps), o4, o5, o6, o7, o8, o9] S = some (ps.map pkV, S) := fun o2 o4 o5 o6 o7 o8 o9 => by unfold pksV; simp
      rw [List.map_cons, List.map_cons, List.foldl_cons, hr, ← ih, for_cons, s_gn, bnd_ok]
      simp only [List.set_cons_succ, List.set_cons_zero]
      rw [s_then, s_set, s_c, bnd_ok, s_gn, bnd_ok, bnd_ok]
      simp only [List.set_cons_succ, List.set_cons_zero]
      rw [s_then, s_for, it, bnd_ok]
      have i' := i
      rw [show oV none = Val.non from rfl] at i'
      rw [i', bnd_ok]
      simp only []
      cases o with
      | none =>
        have c : (mTest (mBin (vIs false) (mVar 2) (mC .non))) [some (tR L), some (picksV pp), some (oV none), some (pksV ps), some (oV (some r)), p5, p6, p7, o8, o9] S = some (true, S) := by simp [oV]
        rw [s_set, s_if, c, bnd_ok, if_pos rfl, s_var]
        simp only [List.getElem?_cons_succ, List.getElem?_cons_zero, bnd_ok, s_gn, List.set_cons_succ, List.set_cons_zero]
        rfl
      | some l =>
        have c : (mTest (mBin (vIs false) (mVar 2) (mC .non))) [some (tR L), some (picksV pp), some (oV (some l)), some (pksV ps), some (oV (some r)), p5, p6, p7, o8, o9] S = some (false, S) := by simp [oV]
        have ch := lc_choose (v := vMax) (f := fun x y => if y > x then y else x) (env := [some (tR L), some (picksV pp), some (oV (some l)), some (pksV ps), some (oV (some r)), p5, p6, p7, o8, o9]) (S := S) (l := l) (m := r) (by rw [ho l rfl]; omega) (mVar 2) (mVar 4) rfl rfl (by simp) (fun x y => v_max2 ..)
        rw [s_set, s_if, c, bnd_ok, if_neg (by decide), ch]
        simp only [bnd_ok, s_gn, List.set_cons_succ, List.set_cons_zero]
        rfl
  obtain ⟨q3, q4, q5, q6, q7, h⟩ := outer pp none none none none none none none none (fun _ h => h) (fun l hl => by cases hl)
  rw [high_is P.ne] at h
  refine gen_id0 ?_ rfl w (refLt_tI _)
  unfold runB m__law_mixture
  rw [show startE N__law_mixture [tR L, picksV pp] = [some (tR L), some (picksV pp), none, none, none, none, none, none, none, none] from rfl]
  have it : ∀ o2, mItems (mVar 1) [some (tR L), some (picksV pp), o2, none, none, none, none, none, none, none] S = some (pp.map pksV, S) := fun o2 => by unfold picksV; simp
  rw [s_then, s_set, s_c, bnd_ok, s_gn, bnd_ok, bnd_ok]
  simp only [List.set_cons_succ, List.set_cons_zero]
  rw [show oV none = Val.non from rfl] at h
  rw [s_then, s_for, it, bnd_ok, h, bnd_ok]
  generalize mix L n pp = l
  simp [oV]
  rfl
end T17
namespace T17
open PySem PySem.Spec PyProof.Rows L2 Fx
theorem v_selfT {S : Store} {l : List Val} {ds : List PyData} (k : Bool) (hp : toPyL l = some ds) (hs : SeqAt.shaped (.tuple ds) = true) : vEqN k (.tup l) (.tup l) S = some (.bl (if k then false else true), S) := by
  show (pyOf S (.tup l)).bind _ = _
  have e1 : pyOf S (.tup l) = some (.tuple ds) := by
    unfold pyOf topV
    show toPy (.tup l) = _
    unfold toPy
    rw [hp]
    rfl
  rw [e1]
  show (if (SeqAt.shaped _ && SeqAt.shaped _) = true then _ else _) = _
  rw [hs, if_pos (by rfl), SeqAt.eqv_refl _ (SeqAt.canLay_of_shaped hs)]
  cases k <;> rfl
def tP (l : List Int) : PyData := .tuple (l.map PyData.int)
theorem toPy_tI (l : List Int) : toPy (tI l) = some (tP l) := by
  unfold tI tP toPy
  rw [toPyL_ints]
  rfl
theorem lay_tP (l : List Int) : PyData.canLay0 (tP l) = true := by unfold tP; rw [PyData.canLay0]; exact lay_map (fun _ => by simp [PyData.canLay0]) l
theorem depth_tP (l : List Int) : PyData.depth (tP l) ≤ 1 := by
  unfold tP
  rw [PyData.depth, depth_ints0]
  omega
theorem shaped_tI (l : List Int) : SeqAt.shaped (.tuple (l.map PyData.int)) = true := by
  have h1 := lay_tP l
  have h2 := depth_tP l
  unfold tP at h1 h2
  unfold SeqAt.shaped
  rw [h1, decide_eq_true (by omega)]
  rfl
theorem shaped_tR (L : List (List Int)) : SeqAt.shaped (.tuple (L.map tP)) = true := by
  have := depth_map depth_tP L
  unfold SeqAt.shaped
  rw [PyData.canLay0, lay_map lay_tP L, decide_eq_true (show PyData.depth _ ≤ 64 by rw [PyData.depth]; omega)]
  rfl
theorem self_tI {S : Store} (k : Bool) (l : List Int) : vEqN k (tI l) (tI l) S = some (.bl (if k then false else true), S) := v_selfT k (toPyL_ints l) (shaped_tI l)
theorem self_tR {S : Store} (k : Bool) (L : List (List Int)) : vEqN k (tR L) (tR L) S = some (.bl (if k then false else true), S) := v_selfT k (toPyL_map toPy_tI L) (shaped_tR L)
theorem self_picks {S : Store} (k : Bool) (L : List (List Pk)) : vEqN k (picksV L) (picksV L) S = some (.bl (if k then false else true), S) := v_selfT k (toPyL_map toPy_pks L) (shaped_picks L)
theorem call_right {L : List (List Int)} {n : Nat} {v : List Int} {S : Store} (w : Wf S) (hL : L ≠ []) (hn : ∀ s ∈ L, s.length = n) (hz : n ≤ 900) (hz2 : L.length ≤ 900) (hv : v.length = n) : M__law_picks_right [tR L, tI v] S = some (.bl true, S) := by
  have cp := call_picks w hL hn hz hz2 hv
  have ch := call_lhull w hL hn (by omega) (by omega)
  have ck : M__law_keeps [tR (hull L n), tI v] S = some (.bl (keeps (hull L n) v), S) := call_keeps w (fun r hr => by
    unfold hull at hr
    obtain ⟨a, _, rfl⟩ := List.mem_map.mp hr
    simp [hv]) (by rw [hull_len, hv]) (by omega)
  have P := picks_ok (v := v) hL hz
  have ca := call_are w P
  have cm := call_mixture w hL hn hz P
  have cl := call_lmixture w hn hz P
  refine gen_id0 ?_ rfl w refLt_bl
  unfold runB m__law_picks_right
  rw [show startE N__law_picks_right [tR L, tI v] = [some (tR L), some (tI v), none, none] from rfl]
  cases hk : keeps (hull L n) v with
  | false =>
    rw [hk, if_neg (by decide)] at cp
    rw [hk] at ck
    generalize tR (hull L n) = R at *
    generalize tR L = r at *
    generalize tI v = u at *
    simp [cp, ch, ck, truD]
  | true =>
    rw [mix_back hL hv hk] at cm cl
    rw [hk, if_pos rfl] at cp
    rw [hk] at ck
    have s1 := self_picks (S := S) true (picksOf L n v)
    have s2 := self_tI (S := S) false v
    have nn : isNon (picksV (picksOf L n v)) = false := rfl
    generalize picksV (picksOf L n v) = pk at *
    generalize tR (hull L n) = R at *
    generalize tR L = r at *
    generalize tI v = u at *
    simp [cp, ch, ck, truD, nn, ca, cm, cl, s1, s2, pick]
end T17
namespace T17
open PySem PySem.Spec PyProof.Rows L2 Fx
theorem call_greater {i j : Int} {S : Store} (w : Wf S) : M_greater_entry [.int i, .int j] S = some (.int (max i j), S) := by
  refine gen_id0 ?_ rfl w refLt_int
  unfold runB m_greater_entry
  rw [show startE N_greater_entry [Val.int i, Val.int j] = [some (.int i), some (.int j)] from rfl]
  simp
  split <;> omega
theorem call_summed {i j : Int} {S : Store} (w : Wf S) : M_summed_entry [.int i, .int j] S = some (.int (i + j), S) := by
  refine gen_id0 ?_ rfl w refLt_int
  unfold runB m_summed_entry
  rw [show startE N_summed_entry [Val.int i, Val.int j] = [some (.int i), some (.int j)] from rfl]
  simp
/-! ### heaviest -/
def rowC (l : List Int) : Cell := .lst (l.map Val.int)
/-- the rows' cells, then the list of rows -/
def hst (S : Store) (R : List (List Int)) (D : List Val) : Store := S ++ R.map rowC ++ [.lst D]
structure Good (S : Store) (R : List (List Int)) (D : List Val) : Prop where
  len : D.length = R.length
  at_ : ∀ a, a < R.length → D[a]? = some (.ref (S.length + a)) ∨ D[a]? = some (.fro ((R.getD a []).map Val.int))
theorem hst_len (S : Store) (R : List (List Int)) (D : List Val) : (hst S R D).length = S.length + R.length + 1 := by unfold hst; simp; omega
theorem hst_row {S : Store} {R : List (List Int)} {D : List Val} {a : Nat} (h : a < R.length) : (hst S R D)[S.length + a]? = some (rowC (R.getD a [])) := by
  unfold hst
  rw [List.append_assoc, List.getElem?_append_right (by omega), Nat.add_sub_cancel_left, List.getElem?_append_left (by simpa using h), List.getElem?_map, List.getElem?_eq_getElem h, List.getD_eq_getElem?_getD, List.getElem?_eq_getElem h]
  rfl
theorem hst_found {S : Store} {R : List (List Int)} {D : List Val} : (hst S R D)[S.length + R.length]? = some (.lst D) := by
  unfold hst
  rw [List.getElem?_append_right (by simp)]
  simp
theorem hst_set {S : Store} {R : List (List Int)} {D D' : List Val} : (hst S R D).set (S.length + R.length) (.lst D') = hst S R D' := by
  unfold hst
  rw [List.set_append_right _ _ (by simp)]
  simp
theorem Good.get {S : Store} {R : List (List Int)} {D : List Val} (g : Good S R D) {a : Nat} (h : a < R.length) : ∃ d gd, D[a]? = some d ∧ lstOf (hst S R D) d = some ((R.getD a []).map Val.int) ∧ lstG (hst S R D) d = some ((R.getD a []).map Val.int, gd) ∧ OkG gd (hst S R D) ∧
    (∀ k, k < (R.getD a []).length → vIx d (.int (k : Int)) (hst S R D) = some (.int ((R.getD a []).getD k 0), hst S R D)) ∧ vTuple [d] (hst S R D) = some (tI (R.getD a []), hst S R D) := by
  have e := hst_row (S := S) (D := D) h
  unfold rowC at e
  generalize hr : R.getD a [] = r at *
  have ixl : ∀ k, k < r.length → (r.map Val.int)[k]? = some (.int (r.getD k 0)) := fun k hk => by
    rw [List.getElem?_map, List.getElem?_eq_getElem hk, List.getD_eq_getElem?_getD, List.getElem?_eq_getElem hk]
    rfl
  rcases g.at_ a h with q | q
  · refine ⟨_, [(S.length + a, r.map Val.int)], q, by rw [lst_ref, e], lstG_ref _ _ e, fun p hp => ?_, fun k hk => ?_, ?_⟩
    · rw [List.mem_singleton.mp hp]
      exact e
    · rw [v_ixR, lst_ref, e]
      simp only [Option.bind_some]
      rw [ixl k hk]
      rfl
    · rw [v_tupR, lst_ref, e]
      rfl
  · rw [hr] at q
    refine ⟨_, [], q, rfl, rfl, (fun p hp => nomatch hp), (fun k hk => ?_), rfl⟩
    rw [v_ixF, ixl k hk]
    rfl
theorem Good.wf {S : Store} {R : List (List Int)} {D : List Val} (w : Wf S) (g : Good S R D) : Wf (hst S R D) := by
  unfold hst
  have w1 : Wf (S ++ R.map rowC) := w.app fun c hc => by
    obtain ⟨r, _, rfl⟩ := List.mem_map.mp hc
    show refLtL _ _ = true
    simp
  refine w1.lst ?_
  have key : ∀ d ∈ D, refLt (S ++ R.map rowC).length d = true := fun d hd => by
    obtain ⟨a, ha, rfl⟩ := List.getElem_of_mem hd
    have ha' : a < R.length := by rw [← g.len]; exact ha
    rcases g.at_ a ha' with q | q
    · rw [List.getElem?_eq_getElem ha] at q
      rw [Option.some.inj q]
      simp
      omega
    · rw [List.getElem?_eq_getElem ha] at q
      rw [Option.some.inj q]
      simp
  clear g
  induction D with
  | nil => simp
  | cons d D ih =>
    rw [refLtL_cons, key d (by simp), ih fun x hx => key x (by simp [hx])]
    rfl
/-- the list of the rows' cells -/
def refsD (b n : Nat) : List Val := (List.range n).map fun a => Val.ref (b + a)
theorem good_refs (S : Store) (R : List (List Int)) : Good S R (refsD S.length R.length) := by
  refine ⟨by unfold refsD; simp, fun a ha => .inl ?_⟩
  unfold refsD
  simp [ha]
/-- the rows are laid -/
theorem lc_rows {R : List (List Int)} {o1 : Val} {o2 o3 o4 o5 o6 o8 o9 o10 : Option Val} : ∀ (Q : List (List Int)) (S : Store) (o7 : Option Val), lcL (gN 7) mYes (mCall (vList true) (mCons (mVar 7) (mNil))) [some o1, o2, o3, o4, o5, o6, o8, o7, o9, o10] (Q.map tI) S = some (refsD S.length Q.length, S ++ Q.map rowC)
  | [], S, o7 => by unfold refsD; simp [lc_nil]
  | r :: Q, S, o7 => by
    have ih := lc_rows (R := R) (o1 := o1) (o2 := o2) (o3 := o3) (o4 := o4) (o5 := o5) (o6 := o6) (o8 := o8) (o9 := o9) (o10 := o10) Q (S ++ [rowC r]) o7
    have e : vList true [tI r] S = some (.ref S.length, S ++ [rowC r]) := rfl
    rw [List.map_cons, lc_cons]
    generalize tI r = u at *
    simp only [s_gn, bnd_ok, s_yes, if_true, s_call, s_cons, s_nil, s_var, List.set_cons_succ, List.set_cons_zero, List.getElem?_cons_succ, List.getElem?_cons_zero]
    rw [e, bnd_ok, ih, bnd_ok]
    unfold refsD
    simp [List.range_succ_eq_map, Nat.add_assoc, Nat.add_comm 1, Function.comp_def]
end T17
namespace T17
open PySem PySem.Spec PyProof.Rows L2 Fx
theorem itemsG_of {e : ME} {env : VEnv} {S S' : Store} {d : Val} {p : List Val × Gd} (h : e env S = some (d, S')) (q : lstG S' d = some p) : mItemsG e env S = some (p, S') := by
  rw [s_itemsG, h, bnd_ok]
  cases d <;> first | (dsimp only; rw [q]; rfl) | (simp [lstG] at q; done)
theorem zipG_of {a b : ME} {env : VEnv} {S : Store} {d1 d2 : Val} {p1 p2 : List Val × Gd} (h1 : a env S = some (d1, S)) (h2 : b env S = some (d2, S)) (q1 : lstG S d1 = some p1) (q2 : lstG S d2 = some p2) :
    mZipG (mCons a (mCons b mNil)) env S = some ((List.zipWith (fun x y => .tup [x, y]) p1.1 p2.1, p1.2 ++ p2.2), S) := by
  rw [s_zipG, s_cons, h1, bnd_ok, s_cons, h2, bnd_ok, s_nil, bnd_ok, bnd_ok, bnd_ok]
  cases d1 <;> first | (simp [lstG] at q1; done) | (cases d2 <;> first | (simp [lstG] at q2; done) | (dsimp only; rw [q1, Option.bind_some, q2]; rfl))
theorem ixN_nat {n a : Nat} (h : a < n) : ixN n (a : Int) = some a := by
  unfold ixN
  rw [if_pos (by omega), if_pos (by omega)]
  simp
theorem key_row {ra rm : List Int} {n : Nat} {x : Int} (la : ra.length = n) (lm : rm.length = n) (h : ∀ t, t < n → x + rm.getD t 0 ≤ ra.getD t 0) : List.zipWith max ra (rm.map fun y => x + y) = ra := by
  apply List.ext_getElem
  · simp [la, lm]
  · intro t h1 h2
    have ht : t < n := by omega
    have e := h t ht
    have h3 : t < rm.length := by omega
    rw [List.getD_eq_getElem?_getD, List.getElem?_eq_getElem h3, List.getD_eq_getElem?_getD, List.getElem?_eq_getElem h2] at e
    simp only [Option.getD_some] at e
    rw [List.getElem_zipWith, List.getElem_map]
    omega
theorem Good.set {S : Store} {R : List (List Int)} {D : List Val} (g : Good S R D) (a : Nat) : Good S R (D.set a (.fro ((R.getD a []).map Val.int))) := by
  refine ⟨by rw [List.length_set]; exact g.len, fun b hb => ?_⟩
  by_cases e : a = b
  · subst e
    exact .inr (by rw [List.getElem?_set_self (by rw [g.len]; exact hb)])
  · rw [List.getElem?_set_ne e]
    exact g.at_ b hb
theorem range_getD {α : Type} {l : List α} {n : Nat} (d : α) (h : l.length = n) : (List.range n).map (fun a => l.getD a d) = l := by
  apply List.ext_getElem
  · simp [h]
  · intro i h1 h2
    simp [List.getD_eq_getElem?_getD, h2]
theorem call_heaviest {R : List (List Int)} {n : Nat} {S : Store} (w : Wf S) (hR : R.length = n) (hr : ∀ r ∈ R, r.length = n) (hz : n ≤ 900) (h0 : ∀ a, a < n → (R.getD a []).getD a 0 = 0)
    (tri : ∀ a m t, a < n → m < n → t < n → (R.getD a []).getD m 0 + (R.getD m []).getD t 0 ≤ (R.getD a []).getD t 0) : M_heaviest [tR R] S = some (tR R, S) := by
  have sz : ∀ k, k ≤ 1000 → k ≤ sizeLine := fun k h => by rw [sizeLine_eq]; omega
  have rl : ∀ a, a < n → (R.getD a []).length = n := fun a ha => hr _ (mem_at (by omega))
  -- found[a]
  have ixF : ∀ {D : List Val} {a : Nat} {d : Val}, D[a]? = some d → vIx (.ref (S.length + R.length)) (.int (a : Int)) (hst S R D) = some (d, hst S R D) := fun {D a d} h => by
    rw [v_ixR, lst_ref, hst_found]
    simp only [Option.bind_some]
    rw [h]
    rfl
  have hI : ∀ (T : Store) (o1 o2 o3 o4 o5 o6 o7 o8 o9 : Option Val), mRng1 (mCons (mCall vLen (mCons (mVar 0) (mNil))) (mNil)) [some (tR R), o1, o2, o3, o4, o5, o6, o7, o8, o9] T = some ((List.range n).map fun i => Val.int (i : Nat), T) := fun T o1 o2 o3 o4 o5 o6 o7 o8 o9 => by
    rw [← rangeV_nat]
    refine rng1_of (m := n) (S' := T) (by omega) ?_
    have l2 := len_tR (L := R) (S := T)
    rw [hR] at l2
    generalize tR R = u at *
    simp [l2]
  -- the diagonal
  have loop1 : ∀ (ps : List Nat) (o2 o3 o4 o5 o6 o7 o8 o9 : Option Val), (∀ p ∈ ps, p < n) → ∃ o2', forL (gN 2) (mSet (mCall M_greater_entry (mCons (mBin vIx (mBin vIx (mVar 1) (mVar 2)) (mVar 2)) (mCons (mC (.int 0)) (mNil)))) (gIx (mBin vIx (mVar 1) (mVar 2)) (mVar 2)))
      (ps.map fun i => Val.int (i : Nat)) [some (tR R), some (.ref (S.length + R.length)), o2, o3, o4, o5, o6, o7, o8, o9] (hst S R (refsD S.length R.length)) = some (.nx [some (tR R), some (.ref (S.length + R.length)), o2', o3, o4, o5, o6, o7, o8, o9], hst S R (refsD S.length R.length)) := by
    intro ps
    induction ps with
    | nil => intro o2 o3 o4 o5 o6 o7 o8 o9 _; exact ⟨o2, rfl⟩
    | cons p ps ih =>
      intro o2 o3 o4 o5 o6 o7 o8 o9 h
      have hp := h p (by simp)
      obtain ⟨o2', ih⟩ := ih (some (.int (p : Int))) o3 o4 o5 o6 o7 o8 o9 fun x hx => h x (by simp [hx])
      refine ⟨o2', ?_⟩
      have g := good_refs S R
      have hD : (refsD S.length R.length)[p]? = some (.ref (S.length + p)) := by unfold refsD; simp [hR, hp]
      obtain ⟨d, gd, q1, _, _, _, q5, _⟩ := g.get (a := p) (by omega)
      rw [hD] at q1
      cases q1
      have i1 := ixF hD
      have i2 := q5 p (by rw [rl p hp]; exact hp)
      rw [h0 p hp] at i2
      have cg := call_greater (i := 0) (j := 0) (g.wf w)
      have er := hst_row (S := S) (R := R) (D := refsD S.length R.length) (a := p) (by omega)
      unfold rowC at er
      have st : (hst S R (refsD S.length R.length)).set (S.length + p) (.lst (((R.getD p []).map Val.int).set p (.int 0))) = hst S R (refsD S.length R.length) := by
        have e1 : ((R.getD p []).map Val.int).set p (.int 0) = (R.getD p []).map Val.int := by
          have hl : p < ((R.getD p []).map Val.int).length := by rw [List.length_map, rl p hp]; exact hp
          have e2 : ((R.getD p []).map Val.int)[p] = .int 0 := by
            have e3 := h0 p hp
            rw [List.getD_eq_getElem?_getD, List.getElem?_eq_getElem (by rw [rl p hp]; exact hp)] at e3
            rw [List.getElem_map]
            simpa using e3
          rw [← e2]
          exact List.set_getElem_self hl
        rw [e1]
        obtain ⟨hk, e⟩ := List.getElem?_eq_some_iff.mp er
        rw [← e]
        exact List.set_getElem_self hk
      rw [List.map_cons, for_cons, s_gn, bnd_ok, ← ih]
      simp only [List.set_cons_succ, List.set_cons_zero]
      have hlen : ((R.getD p []).map Val.int).length = n := by rw [List.length_map, rl p hp]
      have ixn := ixN_nat hp
      generalize hst S R (refsD S.length R.length) = T at *
      generalize (R.getD p []).map Val.int = row at *
      generalize tR R = u at *
      rw [show max (0 : Int) 0 = 0 from rfl] at cg
      simp [i1, i2, cg, er, hlen, ixn, st, -v_ixR]
  -- one row against one in the middle: the same again
  have body : ∀ (D : List Val) (m a : Nat) (o2 o5 o6 o7 o8 o9 : Option Val), Good S R D → m < n → a < n → ∃ o5' o6', (mThen (mSet (mBin vIx (mBin vIx (mVar 1) (mVar 4)) (mVar 3)) (gN 5))
 (mWhen (mTest (mBin (vIs true) (mVar 5) (mC .non))) (mThen (mSet (mLcG false [8] (mItemsG (mBin vIx (mVar 1) (mVar 3))) (gN 8) (mYes) (mCall M_summed_entry (mCons (mVar 5) (mCons (mVar 8) (mNil))))) (gN 6))
 (mSet (mLcG false [8, 9] (mZipG (mCons (mBin vIx (mVar 1) (mVar 4)) (mCons (mVar 6) (mNil)))) (gT 2 (gCons' (gN 8) (gCons' (gN 9) (gNil')))) (mYes) (mCall M_greater_entry (mCons (mVar 8) (mCons (mVar 9) (mNil))))) (gIx (mVar 1) (mVar 4)))) (mSkip)))
      [some (tR R), some (.ref (S.length + R.length)), o2, some (.int (m : Int)), some (.int (a : Int)), o5, o6, o7, o8, o9] (hst S R D) = some (.nx [some (tR R), some (.ref (S.length + R.length)), o2, some (.int (m : Int)), some (.int (a : Int)), o5', o6', o7, o8, o9], hst S R (D.set a (.fro ((R.getD a []).map Val.int)))) := by
    intro D m a o2 o5 o6 o7 o8 o9 g hm ha
    obtain ⟨d, gd, q1, q2, q3, q4, q5, _⟩ := g.get (a := a) (by omega)
    obtain ⟨d', gd', r1, r2, r3, r4, r5, _⟩ := g.get (a := m) (by omega)
    have wT := g.wf w
    have i1 := ixF q1
    have i1' := ixF r1
    have i2 := q5 m (by rw [rl a ha]; exact hm)
    have hst_f := hst_found (S := S) (R := R) (D := D)
    have lD : D.length = n := by rw [g.len, hR]
    have hset := hst_set (S := S) (R := R) (D := D) (D' := D.set a (.fro ((R.getD a []).map Val.int)))
    have la := rl a ha
    have lm := rl m hm
    have key := key_row (x := (R.getD a []).getD m 0) la lm fun t ht => tri a m t ha hm ht
    generalize R.getD a [] = ra at *
    generalize R.getD m [] = rm at *
    generalize ra.getD m 0 = x at *
    generalize hst S R D = T at *
    have nx : isNon (.int x) = false := rfl
    have lc1 : ∀ (u : Val) (o2 o6 o8 : Option Val), lcL (gdG gd' (gN 8)) mYes (mCall M_summed_entry (mCons (mVar 5) (mCons (mVar 8) (mNil)))) [some u, some (.ref (S.length + R.length)), o2, some (.int (m : Int)), some (.int (a : Int)), some (.int x), o6, o7, o8, o9] (rm.map Val.int) T = some ((rm.map fun y => x + y).map Val.int, T) := fun u o2 o6 o8 =>
      lc_map2 Val.int Val.int (fun y => x + y) rm fun y _ => by
        refine ⟨_, by rw [gdG_of r4, s_gn], ?_⟩
        have cs := call_summed (i := x) (j := y) wT
        simp [cs]
    have lc2 : ∀ (u : Val) (o2 o8 o9 : Option Val), lcL (gdG (gd ++ []) (gT 2 (gCons' (gN 8) (gCons' (gN 9) (gNil'))))) mYes (mCall M_greater_entry (mCons (mVar 8) (mCons (mVar 9) (mNil)))) [some u, some (.ref (S.length + R.length)), o2, some (.int (m : Int)), some (.int (a : Int)), some (.int x), some (.fro ((rm.map fun y => x + y).map Val.int)), o7, o8, o9] ((ra.zip (rm.map fun y => x + y)).map prV) T = some (((ra.zip (rm.map fun y => x + y)).map fun p => max p.1 p.2).map Val.int, T) := fun u o2 o8 o9 =>
      lc_map2 prV Val.int (fun p => max p.1 p.2) _ fun p _ => by
        refine ⟨_, by
          rw [gdG_of (by rw [List.append_nil]; exact q4)]
          unfold prV
          rw [s_gt, if_pos (by rfl), s_gcons, s_gn, bnd_ok, s_gcons, s_gn, bnd_ok, s_gnil], ?_⟩
        have cs := call_greater (i := p.1) (j := p.2) wT
        simp [cs]
    rw [zip_map, key] at lc2
    refine ⟨some (.int x), some (.fro ((rm.map fun y => x + y).map Val.int)), ?_⟩
    have ixn := ixN_nat ha
    have z1 : rm.length ≤ sizeLine := by rw [lm]; exact sz _ (by omega)
    have z2 : ra.length ≤ sizeLine := by rw [la]; exact sz _ (by omega)
    have okA : OkG (gd ++ []) T := by rw [List.append_nil]; exact q4
    generalize tR R = u at *
    have e1 : ∀ o5 o6 o8, mItemsG (mBin vIx (mVar 1) (mVar 3)) [some u, some (.ref (S.length + R.length)), o2, some (.int (m : Int)), some (.int (a : Int)), o5, o6, o7, o8, o9] T = some ((rm.map Val.int, gd'), T) := fun o5 o6 o8 => itemsG_of (d := d') (by simp [i1', -v_ixR]) r3
    have e2 : ∀ o8 o9, mZipG (mCons (mBin vIx (mVar 1) (mVar 4)) (mCons (mVar 6) (mNil))) [some u, some (.ref (S.length + R.length)), o2, some (.int (m : Int)), some (.int (a : Int)), some (.int x), some (.fro ((rm.map fun y => x + y).map Val.int)), o7, o8, o9] T = some (((ra.zip (rm.map fun y => x + y)).map prV, gd ++ []), T) := fun o8 o9 => by
      rw [← zip_vals]
      exact zipG_of (d1 := d) (d2 := .fro ((rm.map fun y => x + y).map Val.int)) (p1 := (ra.map Val.int, gd)) (p2 := ((rm.map fun y => x + y).map Val.int, [])) (by simp [i1, -v_ixR]) rfl q3 rfl
    have s1 : (mSet (mBin vIx (mBin vIx (mVar 1) (mVar 4)) (mVar 3)) (gN 5)) [some u, some (.ref (S.length + R.length)), o2, some (.int (m : Int)), some (.int (a : Int)), o5, o6, o7, o8, o9] T = some (.nx [some u, some (.ref (S.length + R.length)), o2, some (.int (m : Int)), some (.int (a : Int)), some (.int x), o6, o7, o8, o9], T) := by simp [i1, i2, -v_ixR]
    have c1 : (mTest (mBin (vIs true) (mVar 5) (mC .non))) [some u, some (.ref (S.length + R.length)), o2, some (.int (m : Int)), some (.int (a : Int)), some (.int x), o6, o7, o8, o9] T = some (true, T) := by simp
    rw [s_then, s1, bnd_ok]
    simp only []
    rw [s_when, c1, bnd_ok, if_pos rfl, s_then, s_set, s_lcG, e1, bnd_ok]
    simp only [wipeE, List.set_cons_succ, List.set_cons_zero]
    rw [lc1, bnd_ok, if_pos ⟨by rw [List.length_map, List.length_map]; exact z1, r4⟩]
    simp only [mk_f, bnd_ok, s_gn, List.set_cons_succ, List.set_cons_zero]
    rw [s_set, s_lcG, e2, bnd_ok]
    simp only [wipeE, List.set_cons_succ, List.set_cons_zero]
    rw [lc2, bnd_ok, if_pos ⟨by rw [List.length_map]; exact z2, okA⟩]
    simp only [mk_f, bnd_ok, s_gix, s_var, List.getElem?_cons_succ, List.getElem?_cons_zero]
    rw [hst_f]
    simp only [lD]
    rw [ixn]
    simp only [Option.map_some, bnd_ok]
    rw [hset]
  -- all rows against one in the middle
  have loop2 : ∀ (as : List Nat) (D : List Val) (m : Nat) (o2 o4 o5 o6 o7 o8 o9 : Option Val), Good S R D → m < n → (∀ a ∈ as, a < n) → ∃ D' o4' o5' o6', Good S R D' ∧ forL (gN 4) (mThen (mSet (mBin vIx (mBin vIx (mVar 1) (mVar 4)) (mVar 3)) (gN 5))
 (mWhen (mTest (mBin (vIs true) (mVar 5) (mC .non))) (mThen (mSet (mLcG false [8] (mItemsG (mBin vIx (mVar 1) (mVar 3))) (gN 8) (mYes) (mCall M_summed_entry (mCons (mVar 5) (mCons (mVar 8) (mNil))))) (gN 6))
 (mSet (mLcG false [8, 9] (mZipG (mCons (mBin vIx (mVar 1) (mVar 4)) (mCons (mVar 6) (mNil)))) (gT 2 (gCons' (gN 8) (gCons' (gN 9) (gNil')))) (mYes) (mCall M_greater_entry (mCons (mVar 8) (mCons (mVar 9) (mNil))))) (gIx (mVar 1) (mVar 4)))) (mSkip)))
      (as.map fun i => Val.int (i : Nat)) [some (tR R), some (.ref (S.length + R.length)), o2, some (.int (m : Int)), o4, o5, o6, o7, o8, o9] (hst S R D) = some (.nx [some (tR R), some (.ref (S.length + R.length)), o2, some (.int (m : Int)), o4', o5', o6', o7, o8, o9], hst S R D') := by
    intro as
    induction as with
    | nil => intro D m o2 o4 o5 o6 o7 o8 o9 g _ _; exact ⟨D, o4, o5, o6, g, rfl⟩
    | cons a as ih =>
      intro D m o2 o4 o5 o6 o7 o8 o9 g hm h
      obtain ⟨p5, p6, hb⟩ := body D m a o2 o5 o6 o7 o8 o9 g hm (h a (by simp))
      obtain ⟨D', q4, q5, q6, g', ih⟩ := ih (D.set a (.fro ((R.getD a []).map Val.int))) m o2 (some (.int (a : Int))) p5 p6 o7 o8 o9 (g.set a) hm fun x hx => h x (by simp [hx])
      refine ⟨D', q4, q5, q6, g', ?_⟩
      rw [List.map_cons, for_cons, s_gn, bnd_ok]
      simp only [List.set_cons_succ, List.set_cons_zero]
      rw [hb, bnd_ok]
      exact ih
  have loop3 : ∀ (ms : List Nat) (D : List Val) (o2 o3 o4 o5 o6 o7 o8 o9 : Option Val), Good S R D → (∀ a ∈ ms, a < n) → ∃ D' o3' o4' o5' o6', Good S R D' ∧ forL (gN 3) (mThen (mWhen (mTest (mBin vGt (mBin vIx (mBin vIx (mVar 1) (mVar 3)) (mVar 3)) (mC (.int 0)))) (mRet (mC .non)) (mSkip))
 (mFor (mRng1 (mCons (mCall vLen (mCons (mVar 0) (mNil))) (mNil))) (gN 4) (mThen (mSet (mBin vIx (mBin vIx (mVar 1) (mVar 4)) (mVar 3)) (gN 5))
 (mWhen (mTest (mBin (vIs true) (mVar 5) (mC .non))) (mThen (mSet (mLcG false [8] (mItemsG (mBin vIx (mVar 1) (mVar 3))) (gN 8) (mYes) (mCall M_summed_entry (mCons (mVar 5) (mCons (mVar 8) (mNil))))) (gN 6))
 (mSet (mLcG false [8, 9] (mZipG (mCons (mBin vIx (mVar 1) (mVar 4)) (mCons (mVar 6) (mNil)))) (gT 2 (gCons' (gN 8) (gCons' (gN 9) (gNil')))) (mYes) (mCall M_greater_entry (mCons (mVar 8) (mCons (mVar 9) (mNil))))) (gIx (mVar 1) (mVar 4)))) (mSkip)))))
      (ms.map fun i => Val.int (i : Nat)) [some (tR R), some (.ref (S.length + R.length)), o2, o3, o4, o5, o6, o7, o8, o9] (hst S R D) = some (.nx [some (tR R), some (.ref (S.length + R.length)), o2, o3', o4', o5', o6', o7, o8, o9], hst S R D') := by
    intro ms
    induction ms with
    | nil => intro D o2 o3 o4 o5 o6 o7 o8 o9 g _; exact ⟨D, o3, o4, o5, o6, g, rfl⟩
    | cons m ms ih =>
      intro D o2 o3 o4 o5 o6 o7 o8 o9 g h
      have hm := h m (by simp)
      obtain ⟨D1, p4, p5, p6, g1, hb⟩ := loop2 (List.range n) D m o2 o4 o5 o6 o7 o8 o9 g hm fun a ha => List.mem_range.mp ha
      obtain ⟨D', q3, q4, q5, q6, g', ih⟩ := ih D1 o2 (some (.int (m : Int))) p4 p5 p6 o7 o8 o9 g1 fun x hx => h x (by simp [hx])
      refine ⟨D', q3, q4, q5, q6, g', ?_⟩
      obtain ⟨d, gd, q1, _, _, _, q5', _⟩ := g.get (a := m) (by omega)
      have i1 := ixF q1
      have i2 := q5' m (by rw [rl m hm]; exact hm)
      rw [h0 m hm] at i2
      have c : (mTest (mBin vGt (mBin vIx (mBin vIx (mVar 1) (mVar 3)) (mVar 3)) (mC (.int 0)))) [some (tR R), some (.ref (S.length + R.length)), o2, some (.int (m : Int)), o4, o5, o6, o7, o8, o9] (hst S R D) = some (false, hst S R D) := by
        generalize hst S R D = T at *
        generalize tR R = u at *
        simp [i1, i2, -v_ixR]
      rw [List.map_cons, for_cons, s_gn, bnd_ok]
      simp only [List.set_cons_succ, List.set_cons_zero]
      rw [s_then, s_when, c, bnd_ok, if_neg (by decide), s_skip, bnd_ok]
      simp only []
      rw [s_for, hI, bnd_ok, hb, bnd_ok]
      exact ih
  obtain ⟨o2', h1⟩ := loop1 (List.range n) none none none none none none none none fun p hp => List.mem_range.mp hp
  obtain ⟨D', q3, q4, q5, q6, g', h3⟩ := loop3 (List.range n) (refsD S.length R.length) o2' none none none none none none none (good_refs S R) fun p hp => List.mem_range.mp hp
  have lz : n ≤ sizeLine := sz _ (by omega)
  refine gen_id (S1 := S) (J := R.map rowC ++ [.lst D']) ?_ rfl w (refLt_tR _)
  unfold runB m_heaviest
  rw [show startE N_heaviest [tR R] = [some (tR R), none, none, none, none, none, none, none, none, none] from rfl]
  have it : mItems (mVar 0) [some (tR R), none, none, none, none, none, none, none, none, none] S = some (R.map tI, S) := by unfold tR; simp
  have lr := lc_rows (R := R) (o1 := tR R) (o2 := none) (o3 := none) (o4 := none) (o5 := none) (o6 := none) (o8 := none) (o9 := none) (o10 := none) R S none
  have lD : D'.length = n := by rw [g'.len, hR]
  have endc : lcL (gdG [(S.length + R.length, D')] (gN 7)) mYes (mCall vTuple (mCons (mVar 7) (mNil))) [some (tR R), some (.ref (S.length + R.length)), o2', q3, q4, q5, q6, none, none, none] D' (hst S R D') = some (R.map tI, hst S R D') := by
    have e1 : D' = (List.range n).map fun a => D'.getD a .non := (range_getD .non lD).symm
    have e2 : R.map tI = ((List.range n).map fun a => R.getD a []).map tI := by rw [range_getD [] hR]
    have okF : OkG [(S.length + R.length, D')] (hst S R D') := fun p hp => by
      rw [List.mem_singleton.mp hp]
      exact hst_found
    rw [e2]
    have := lc_map2 (g := gdG [(S.length + R.length, D')] (gN 7)) (m := mCall vTuple (mCons (mVar 7) (mNil))) (env := [some (tR R), some (.ref (S.length + R.length)), o2', q3, q4, q5, q6, none, none, none]) (S := hst S R D') (fun a => D'.getD a .non) tI (fun a => R.getD a []) (List.range n) fun a ha => by
      have ha' := List.mem_range.mp ha
      obtain ⟨d, gd, q1, _, _, _, _, q6'⟩ := g'.get (a := a) (by omega)
      refine ⟨_, by rw [gdG_of okF, s_gn], ?_⟩
      have e3 : D'.getD a .non = d := by rw [List.getD_eq_getElem?_getD, q1]; rfl
      rw [e3]
      generalize hst S R D' = T at *
      generalize tR R = u at *
      simp [q6']
    rw [range_getD .non lD] at this
    exact this
  have hh : S ++ R.map rowC ++ [.lst (refsD S.length R.length)] = hst S R (refsD S.length R.length) := rfl
  have hlen : (S ++ R.map rowC).length = S.length + R.length := by simp
  rw [s_then, s_set, s_lc, it, bnd_ok]
  simp only [wipeE, List.set_cons_succ, List.set_cons_zero]
  rw [lr, bnd_ok, if_pos (by unfold refsD; rw [List.length_map, List.length_range, hR]; exact lz)]
  simp only [mk_t, bnd_ok, s_gn, List.set_cons_succ, List.set_cons_zero]
  rw [hh, hlen, s_then, s_for, hI, bnd_ok, h1, bnd_ok]
  simp only []
  rw [s_then, s_for, hI, bnd_ok, h3, bnd_ok]
  simp only []
  have ig : mItemsG (mVar 1) [some (tR R), some (.ref (S.length + R.length)), o2', q3, q4, q5, q6, none, none, none] (hst S R D') = some ((D', [(S.length + R.length, D')]), hst S R D') := itemsG_of (d := .ref (S.length + R.length)) rfl (lstG_ref _ _ hst_found)
  have okF : OkG [(S.length + R.length, D')] (hst S R D') := fun p hp => by
    rw [List.mem_singleton.mp hp]
    exact hst_found
  rw [s_ret, s_call, s_cons, s_lcG, ig, bnd_ok]
  simp only [wipeE, List.set_cons_succ, List.set_cons_zero]
  rw [endc, bnd_ok, if_pos ⟨by rw [List.length_map, hR]; exact lz, okF⟩]
  simp only [mk_f, bnd_ok, s_nil, v_tupF]
  unfold hst
  rw [List.append_assoc]
  rfl
end T17
namespace T17
open PySem PySem.Spec PyProof.Rows L2 Fx
/-- a comprehension whose items draw -/
theorem lc_heap {β : Type} {R : Store} {g : MG} {m : ME} {env : VEnv} (u : β → Val) (Q : β → Prop) : ∀ (items : List Val), (∀ x ∈ items, ∀ (cells : List Int) (st : Int), cells.length ≤ 60 → ∃ v c' s' env1, Q v ∧ c'.length ≤ 60 ∧ g x env (hs cells st R) = some (env1, hs cells st R) ∧ m env1 (hs cells st R) = some (u v, hs c' s' R)) →
    ∀ (cells : List Int) (st : Int), cells.length ≤ 60 → ∃ (vs : List β) (c' : List Int) (s' : Int), vs.length = items.length ∧ (∀ v ∈ vs, Q v) ∧ c'.length ≤ 60 ∧ lcL g mYes m env items (hs cells st R) = some (vs.map u, hs c' s' R)
  | [], _, cells, st, hc => ⟨[], cells, st, rfl, fun v h => by simp at h, hc, rfl⟩
  | x :: items, h, cells, st, hc => by
    obtain ⟨v, c1, s1, env1, hq, hc1, h1, h2⟩ := h x (by simp) cells st hc
    obtain ⟨vs, c2, s2, l2, q2, hc2, h3⟩ := lc_heap u Q items (fun y hy => h y (by simp [hy])) c1 s1 hc1
    refine ⟨v :: vs, c2, s2, by simp [l2], fun y hy => ?_, hc2, ?_⟩
    · rcases List.mem_cons.mp hy with e | e
      · rw [e]; exact hq
      · exact q2 y e
    · rw [lc_cons, h1, bnd_ok, s_yes, bnd_ok, if_pos rfl, h2, bnd_ok, h3, bnd_ok]
      rfl
theorem p24 : vPow (.int 10) (.int 24) = fun S => some (.int (10 ^ 24), S) := by
  funext S
  rw [Fx.v_pow, if_pos ⟨by decide, by decide, by decide⟩]
  rfl
theorem p23 : vPow (.int 10) (.int 23) = fun S => some (.int (10 ^ 23), S) := by
  funext S
  rw [Fx.v_pow, if_pos ⟨by decide, by decide, by decide⟩]
  rfl
/-- what may be picked of a list that changes -/
theorem call_pickR {R : Store} {cells : List Int} {st : Int} {l : List Val} {r : Nat} (w : WfR R) (hc : cells.length ≤ 60) (h0 : 0 < l.length) (h1 : l.length < 1000) (hr : refLtL 0 l = true) (hR : ∀ cells st, (hs cells st R)[r]? = some (.lst l)) :
    ∃ x cells' st', cells'.length ≤ 60 ∧ x ∈ l ∧ M__law_pick [.ref 1, .ref r] (hs cells st R) = some (x, hs cells' st' R) := by
  obtain ⟨v, c2, s2, hc2, p1, p2, hd⟩ := call_draw (R := R) (cells := cells) (st := st) (m := (l.length : Int)) w hc (by omega) (small_log (by omega) (by omega))
  obtain ⟨k, rfl⟩ : ∃ k : Nat, v = (k : Int) := ⟨v.toNat, by omega⟩
  have hk : k < l.length := by omega
  have hx : refLt (hs c2 s2 R).length l[k] = true := refLt_le (Nat.zero_le _) _ (refLtL_all hr _ (List.getElem_mem hk))
  refine ⟨l[k], c2, s2, hc2, List.getElem_mem hk, gen_id0 ?_ rfl (w _ _) hx⟩
  have ln : vLen [.ref r] (hs cells st R) = some (.int (l.length : Nat), hs cells st R) := by
    show (lstOf (hs cells st R) (.ref r)).map _ = _
    rw [lst_ref, hR]
    rfl
  have ix : vIx (.ref r) (.int (k : Int)) (hs c2 s2 R) = some (l[k], hs c2 s2 R) := by
    rw [v_ixR, lst_ref, hR]
    simp only [Option.bind_some]
    rw [List.getElem?_eq_getElem hk]
    rfl
  unfold runB m__law_pick
  rw [show startE N__law_pick [.ref 1, .ref r] = [some (.ref 1), some (.ref r)] from rfl]
  simp [hd, ln, ix, -v_ixR]
theorem rng_of {ms : MA} {env : VEnv} {S : Store} {n : Nat} (hn : n ≤ 1000000) (h : ms env S = some ([.int (n : Int)], S)) : mRng1 ms env S = some ((List.range n).map fun i => Val.int (i : Nat), S) := by
  rw [← rangeV_nat]
  exact rng1_of hn h
/-- the store while settings are drawn -/
def rset (L : List (List Int)) : Store := [.lst (L.map tI)]
theorem wfr_rset (L : List (List Int)) : WfR (rset L) := fun cells st i c h => by
  match i with
  | 0 => simp [hs] at h; subst h; simp [refLtC]
  | 1 => simp [hs] at h; subst h; simp [refLtC, hs]
  | 2 =>
    simp [hs, rset] at h
    subst h
    exact refLtL_map refLt_tI L
  | i + 3 => simp [hs, rset] at h
theorem call_lsetting {L : List (List Int)} {n : Nat} {cells : List Int} {st : Int} {B : Int} (h24 : 10 ^ 24 ≤ B) (hB : ∀ s ∈ L, ∀ x ∈ s, -B ≤ x ∧ x ≤ B) (hn : ∀ s ∈ L, s.length = n) (hz : n ≤ 900) (hL : L.length ≤ 900) (hc : cells.length ≤ 60) :
    ∃ s cells' st', s.length = n ∧ (∀ x ∈ s, -(B + 23) ≤ x ∧ x ≤ B + 23) ∧ cells'.length ≤ 60 ∧ M__law_setting [.ref 1, .int (n : Int), .ref 2] (hs cells st (rset L)) = some (tI s, hs cells' st' (rset L)) := by
  have w := wfr_rset L
  have sz : ∀ k, k ≤ 1000 → k ≤ sizeLine := fun k h => by rw [sizeLine_eq]; omega
  obtain ⟨v, c1, s1, hc1, p1, p2, hd⟩ := call_draw (R := rset L) (cells := cells) (st := st) (m := 5) w hc (by decide) (by decide)
  have fin : ∀ (s : List Int) c2 s2, s.length = n → (∀ x ∈ s, -(B + 23) ≤ x ∧ x ≤ B + 23) → c2.length ≤ 60 → runB N__law_setting m__law_setting [.ref 1, .int (n : Int), .ref 2] (hs cells st (rset L)) = some (tI s, hs c2 s2 (rset L)) →
      ∃ s cells' st', s.length = n ∧ (∀ x ∈ s, -(B + 23) ≤ x ∧ x ≤ B + 23) ∧ cells'.length ≤ 60 ∧ M__law_setting [.ref 1, .int (n : Int), .ref 2] (hs cells st (rset L)) = some (tI s, hs cells' st' (rset L)) := fun s c2 s2 h1 hq h2 h3 => ⟨s, c2, s2, h1, hq, h2, gen_id0 h3 rfl (w _ _) (refLt_tI _)⟩
  have hr0 : startE N__law_setting [.ref 1, .int (n : Int), .ref 2] = [some (.ref 1), some (.int (n : Int)), some (.ref 2), none, none, none, none] := rfl
  have hI : ∀ (T : Store) (o3 o4 o5 o6 : Option Val), mRng1 (mCons (mVar 1) (mNil)) [some (.ref 1), some (.int (n : Int)), some (.ref 2), o3, o4, o5, o6] T = some ((List.range n).map fun i => Val.int (i : Nat), T) := fun T o3 o4 o5 o6 => rng_of (by omega) (by simp)
  have setd : (mSet (mCall M__law_draw (mCons (mVar 0) (mCons (mC (.int 5)) (mNil)))) (gN 3)) [some (.ref 1), some (.int (n : Int)), some (.ref 2), none, none, none, none] (hs cells st (rset L)) = some (.nx [some (.ref 1), some (.int (n : Int)), some (.ref 2), some (.int v), none, none, none], hs c1 s1 (rset L)) := by simp [hd]
  by_cases q0 : v = 0
  · obtain ⟨vs, c2, s2, l2, qb, hc2, h2⟩ := lc_heap (R := rset L) (g := gN 5) (m := mBin vSub (mCall M__law_draw (mCons (mVar 0) (mCons (mBin vPow (mC (.int 10)) (mC (.int 24))) (mNil)))) (mBin vPow (mC (.int 10)) (mC (.int 23)))) (env := [some (.ref 1), some (.int (n : Int)), some (.ref 2), some (.int v), none, none, none]) Val.int (fun z => -(B + 23) ≤ z ∧ z ≤ B + 23) ((List.range n).map fun i => Val.int (i : Nat)) (fun x _ cells st hc => by
      obtain ⟨v2, c3, s3, hc3, b1, b2, hd3⟩ := call_draw (R := rset L) (cells := cells) (st := st) (m := 10 ^ 24) w hc (by decide) (by decide)
      refine ⟨v2 - 10 ^ 23, c3, s3, _, ⟨by omega, by omega⟩, hc3, s_gn .., ?_⟩
      rw [s_bin, s_call, s_cons, s_var]
      simp only [List.set_cons_succ, List.set_cons_zero, List.getElem?_cons_zero, bnd_ok]
      rw [s_cons, s_bin, s_c, bnd_ok, s_c, bnd_ok, p24]
      simp only [bnd_ok, s_nil]
      rw [hd3, bnd_ok, s_bin, s_c, bnd_ok, s_c, bnd_ok, p23]
      simp only [bnd_ok, Fx.v_sub]) c1 s1 hc1
    rw [List.length_map, List.length_range] at l2
    refine fin vs c2 s2 l2 qb hc2 ?_
    unfold runB m__law_setting
    have c : (mTest (mBin vEq (mVar 3) (mC (.int 0)))) [some (.ref 1), some (.int (n : Int)), some (.ref 2), some (.int v), none, none, none] (hs c1 s1 (rset L)) = some (true, hs c1 s1 (rset L)) := by simp [q0]
    rw [hr0, s_then, setd, bnd_ok]
    simp only []
    rw [s_then, s_when, c, bnd_ok, if_pos rfl, s_ret, s_call, s_cons, s_lc, hI, bnd_ok]
    simp only [wipeE, List.set_cons_succ, List.set_cons_zero]
    rw [h2, bnd_ok, if_pos (by rw [List.length_map, l2]; exact sz _ (by omega))]
    simp only [mk_f, bnd_ok, s_nil, v_tupF]
    rfl
  · have c : (mTest (mBin vEq (mVar 3) (mC (.int 0)))) [some (.ref 1), some (.int (n : Int)), some (.ref 2), some (.int v), none, none, none] (hs c1 s1 (rset L)) = some (false, hs c1 s1 (rset L)) := by simp [q0]
    have s2nd : (hs c1 s1 (rset L))[2]? = some (.lst (L.map tI)) := rfl
    have vn := v_nilG (S := hs c1 s1 (rset L)) (r := 2) true s2nd (toPyL_map toPy_tI L) (by
      have := depth_map depth_tP L
      unfold SeqAt.shaped
      rw [PyData.canLay0, lay_map lay_tP L, decide_eq_true (show PyData.depth _ ≤ 64 by rw [PyData.depth]; omega)]
      rfl)
    by_cases q1 : v < 3 ∧ L ≠ []
    · have em : (L.map tI).isEmpty = false := by
        cases L with
        | nil => exact absurd rfl q1.2
        | cons _ _ => rfl
      rw [em] at vn
      have c2 : (mAnd (mTest (mBin vLt (mVar 3) (mC (.int 3)))) (mTest (mBin vNe (mVar 2) (mFro (mNil))))) [some (.ref 1), some (.int (n : Int)), some (.ref 2), some (.int v), none, none, none] (hs c1 s1 (rset L)) = some (true, hs c1 s1 (rset L)) := by
        have e0 : 0 ≤ sizeLine := Nat.zero_le _
        simp [q1.1, vn]
      obtain ⟨sh, c3, s3, hc3, sh1, sh2, hd3⟩ := call_draw (R := rset L) (cells := c1) (st := s1) (m := 20) w hc1 (by decide) (by decide)
      obtain ⟨x, c4, s4, hc4, hx, hp⟩ := call_pickR (R := rset L) (cells := c3) (st := s3) (l := L.map tI) (r := 2) w hc3 (by rw [List.length_map]; exact List.length_pos_iff.mpr q1.2) (by rw [List.length_map]; omega) (refLtL_map refLt_tI L) (fun _ _ => rfl)
      obtain ⟨b, hb, rfl⟩ := List.mem_map.mp hx
      have e5 : 5 ≤ sizeLine := sz 5 (by decide)
      obtain ⟨vs, c5, s5, l5, qb, hc5, h5⟩ := lc_heap (R := rset L) (g := gN 6) (m := mBin vAdd (mBin vAdd (mVar 6) (mVar 4)) (mCall M__law_pick (mCons (mVar 0) (mCons (mFro (mCons (mC (.int 0)) (mCons (mC (.int 0)) (mCons (mC (.int 1)) (mCons (mBin vSub (mC (.int 0)) (mC (.int 1))) (mCons (mC (.int 3)) (mNil))))))) (mNil))))) (env := [some (.ref 1), some (.int (n : Int)), some (.ref 2), some (.int v), some (.int sh), none, none]) Val.int (fun z => -(B + 23) ≤ z ∧ z ≤ B + 23) (b.map Val.int) (fun y hy cells st hc => by
        obtain ⟨i, hi, rfl⟩ := List.mem_map.mp hy
        have bi := hB b hb i hi
        obtain ⟨z, c6, s6, hc6, hz6, hp6⟩ := call_pick (R := rset L) (cells := cells) (st := st) (l := [.int 0, .int 0, .int 1, .int (-1), .int 3]) w hc (by simp) (by simp) (by simp)
        have hz7 : ∃ k : Int, -1 ≤ k ∧ k ≤ 3 ∧ z = .int k := by
          simp only [List.mem_cons, List.mem_nil_iff, or_false] at hz6
          rcases hz6 with rfl | rfl | rfl | rfl | rfl <;> exact ⟨_, by decide, by decide, rfl⟩
        obtain ⟨k, k1, k2, rfl⟩ := hz7
        refine ⟨i + sh + k, c6, s6, _, ⟨by omega, by omega⟩, hc6, s_gn .., ?_⟩
        simp [hp6, e5]) c4 s4 hc4
      rw [List.length_map, hn b hb] at l5
      refine fin vs c5 s5 l5 qb hc5 ?_
      unfold runB m__law_setting
      rw [hr0, s_then, setd, bnd_ok]
      simp only []
      rw [s_then, s_when, c, bnd_ok, if_neg (by decide), s_skip, bnd_ok]
      simp only []
      rw [s_then, s_when, c2, bnd_ok, if_pos rfl]
      have st4 : (mSet (mCall M__law_draw (mCons (mVar 0) (mCons (mC (.int 20)) (mNil)))) (gN 4)) [some (.ref 1), some (.int (n : Int)), some (.ref 2), some (.int v), none, none, none] (hs c1 s1 (rset L)) = some (.nx [some (.ref 1), some (.int (n : Int)), some (.ref 2), some (.int v), some (.int sh), none, none], hs c3 s3 (rset L)) := by simp [hd3]
      have it : mItems (mCall M__law_pick (mCons (mVar 0) (mCons (mVar 2) (mNil)))) [some (.ref 1), some (.int (n : Int)), some (.ref 2), some (.int v), some (.int sh), none, none] (hs c3 s3 (rset L)) = some (b.map Val.int, hs c4 s4 (rset L)) := by
        unfold tI at hp
        simp [hp]
      rw [s_then, st4, bnd_ok]
      simp only []
      rw [s_ret, s_call, s_cons, s_lc, it, bnd_ok]
      simp only [wipeE, List.set_cons_succ, List.set_cons_zero]
      rw [h5, bnd_ok, if_pos (by rw [List.length_map, l5]; exact sz _ (by omega))]
      simp only [mk_f, bnd_ok, s_nil, v_tupF]
      rfl
    · have c2 : (mAnd (mTest (mBin vLt (mVar 3) (mC (.int 3)))) (mTest (mBin vNe (mVar 2) (mFro (mNil))))) [some (.ref 1), some (.int (n : Int)), some (.ref 2), some (.int v), none, none, none] (hs c1 s1 (rset L)) = some (false, hs c1 s1 (rset L)) := by
        by_cases q2 : v < 3
        · have e : L = [] := Classical.byContradiction fun z => q1 ⟨q2, z⟩
          have em : (L.map tI).isEmpty = true := by rw [e]; rfl
          rw [em] at vn
          simp [q2, vn]
        · simp [q2]
      obtain ⟨vs, c3, s3, l3, qb, hc3, h3⟩ := lc_heap (R := rset L) (g := gN 5) (m := mBin vSub (mCall M__law_draw (mCons (mVar 0) (mCons (mC (.int 12)) (mNil)))) (mC (.int 6))) (env := [some (.ref 1), some (.int (n : Int)), some (.ref 2), some (.int v), none, none, none]) Val.int (fun z => -(B + 23) ≤ z ∧ z ≤ B + 23) ((List.range n).map fun i => Val.int (i : Nat)) (fun x _ cells st hc => by
        obtain ⟨v2, c3, s3, hc3, b1, b2, hd3⟩ := call_draw (R := rset L) (cells := cells) (st := st) (m := 12) w hc (by decide) (by decide)
        refine ⟨v2 - 6, c3, s3, _, ⟨by omega, by omega⟩, hc3, s_gn .., ?_⟩
        simp [hd3]) c1 s1 hc1
      rw [List.length_map, List.length_range] at l3
      refine fin vs c3 s3 l3 qb hc3 ?_
      unfold runB m__law_setting
      rw [hr0, s_then, setd, bnd_ok]
      simp only []
      rw [s_then, s_when, c, bnd_ok, if_neg (by decide), s_skip, bnd_ok]
      simp only []
      rw [s_then, s_when, c2, bnd_ok, if_neg (by decide), s_skip, bnd_ok]
      simp only []
      rw [s_ret, s_call, s_cons, s_lc, hI, bnd_ok]
      simp only [wipeE, List.set_cons_succ, List.set_cons_zero]
      rw [h3, bnd_ok, if_pos (by rw [List.length_map, l3]; exact sz _ (by omega))]
      simp only [mk_f, bnd_ok, s_nil, v_tupF]
      rfl
end T17
namespace T17
open PySem PySem.Spec PyProof.Rows L2 Fx
/-- the settings drawn one after another -/
theorem loop_set {n : Nat} (hz : n ≤ 900) {e : List (Option Val)} : ∀ (xs : List Int) (L : List (List Int)) (cells : List Int) (st : Int) (B : Int) (o : Option Val), 10 ^ 24 ≤ B → (∀ s ∈ L, ∀ x ∈ s, -B ≤ x ∧ x ≤ B) → (∀ s ∈ L, s.length = n) → L.length + xs.length ≤ 900 → cells.length ≤ 60 →
    ∃ (L' : List (List Int)) (c' : List Int) (s' : Int) (o' : Option Val), L'.length = L.length + xs.length ∧ (∀ s ∈ L', ∀ x ∈ s, -(B + 23 * xs.length) ≤ x ∧ x ≤ B + 23 * xs.length) ∧ (∀ s ∈ L', s.length = n) ∧ c'.length ≤ 60 ∧
      forL (gN 3) (mDo (mMeth "list" vAppend (mVar 2) (mCons (mCall M__law_setting (mCons (mVar 0) (mCons (mVar 1) (mCons (mVar 2) (mNil))))) (mNil)))) (xs.map Val.int) (some (.ref 1) :: some (.int (n : Int)) :: some (.ref 2) :: o :: e) (hs cells st (rset L))
        = some (.nx (some (.ref 1) :: some (.int (n : Int)) :: some (.ref 2) :: o' :: e), hs c' s' (rset L'))
  | [], L, cells, st, B, o, h24, hB, hn, hl, hc => ⟨L, cells, st, o, rfl, by simpa using hB, hn, hc, by rw [List.map_nil, for_nil]⟩
  | x :: xs, L, cells, st, B, o, h24, hB, hn, hl, hc => by
    rw [List.length_cons] at hl
    obtain ⟨s, c1, s1, ls, bs, hc1, hp⟩ := call_lsetting (st := st) h24 hB hn hz (by omega) hc
    obtain ⟨L', c2, s2, o', l2, b2, n2, hc2, hf⟩ := loop_set hz (e := e) xs (L ++ [s]) c1 s1 (B + 23) (some (.int x)) (by omega) (fun t ht y hy => by
      rcases List.mem_append.mp ht with h | h
      · have := hB t h y hy
        exact ⟨by omega, by omega⟩
      · rw [List.mem_singleton] at h
        subst h
        exact bs y hy) (fun t ht => by
      rcases List.mem_append.mp ht with h | h
      · exact hn t h
      · rw [List.mem_singleton] at h
        rw [h, ls]) (by rw [List.length_append, List.length_singleton]; omega) hc1
    refine ⟨L', c2, s2, o', by rw [l2, List.length_append, List.length_singleton, List.length_cons]; omega, fun t ht y hy => ?_, n2, hc2, ?_⟩
    · have := b2 t ht y hy
      rw [List.length_cons]
      push_cast
      exact ⟨by omega, by omega⟩
    · rw [List.map_cons, for_cons]
      have g : (gN 3) (Val.int x) (some (.ref 1) :: some (.int (n : Int)) :: some (.ref 2) :: o :: e) (hs cells st (rset L)) = some (some (.ref 1) :: some (.int (n : Int)) :: some (.ref 2) :: some (.int x) :: e, hs cells st (rset L)) := by
        rw [s_gn]; rfl
      rw [g, bnd_ok]
      have ap : vAppend (.ref 2) [tI s] (hs c1 s1 (rset L)) = some (.non, hs c1 s1 (rset (L ++ [s]))) := by
        have lt : L.length < sizeLine := by
          rw [sizeLine_eq]; omega
        rw [v_app]
        simp [hs, rset, lt, refLt_tI]
      have stp : (mDo (mMeth "list" vAppend (mVar 2) (mCons (mCall M__law_setting (mCons (mVar 0) (mCons (mVar 1) (mCons (mVar 2) (mNil))))) (mNil)))) (some (.ref 1) :: some (.int (n : Int)) :: some (.ref 2) :: some (.int x) :: e) (hs cells st (rset L)) = some (.nx (some (.ref 1) :: some (.int (n : Int)) :: some (.ref 2) :: some (.int x) :: e), hs c1 s1 (rset (L ++ [s]))) := by
        have at2 : (hs cells st (rset L))[2]? = some (.lst (L.map tI)) := rfl
        generalize tI s = ts at ap hp
        simp [hp, ap, at2, -v_app]
      rw [stp, bnd_ok]
      exact hf
end T17
namespace T17
open PySem PySem.Spec PyProof.Rows L2 Fx
/-- the store while picks are drawn -/
def rpk (L : List (List Int)) (pp : List (List Pk)) : Store := [.lst (L.map tI), .lst (pp.map pksV)]
theorem wfr_rpk (L : List (List Int)) (pp : List (List Pk)) : WfR (rpk L pp) := fun cells st i c h => by
  match i with
  | 0 => simp [hs] at h; subst h; simp [refLtC]
  | 1 => simp [hs] at h; subst h; simp [refLtC, hs]
  | 2 =>
    simp [hs, rpk] at h
    subst h
    exact refLtL_map refLt_tI L
  | 3 =>
    simp [hs, rpk] at h
    subst h
    exact refLtL_map refLt_pks pp
  | i + 4 => simp [hs, rpk] at h
theorem len_ref {S : Store} {r : Nat} {l : List Val} (h : S[r]? = some (.lst l)) : vLen [.ref r] S = some (.int (l.length : Nat), S) := by
  show (lstOf S (.ref r)).map _ = _
  rw [lst_ref, h]
  rfl
/-- what is known of drawn picks -/
def PkB (L : List (List Int)) (ps : List Pk) : Prop := ps ≠ [] ∧ ps.length ≤ 3 ∧ ∀ q ∈ ps, q.1 < L.length ∧ -6 ≤ q.2 ∧ q.2 ≤ 6
theorem loop_picks {L : List (List Int)} (hL : L ≠ []) (hL2 : L.length ≤ 900) {b : Val} {g r : Option Val} : ∀ (xs : List Int) (pp : List (List Pk)) (cells : List Int) (st : Int) (o o7 : Option Val), (∀ ps ∈ pp, PkB L ps) → pp.length + xs.length ≤ 900 → cells.length ≤ 60 →
    ∃ (pp' : List (List Pk)) (c' : List Int) (s' : Int) (o' o7' : Option Val), pp'.length = pp.length + xs.length ∧ (∀ ps ∈ pp', PkB L ps) ∧ c'.length ≤ 60 ∧
      forL (gN 3) (mThen (mSet (mBin vAdd (mC (.int 1)) (mCall M__law_draw (mCons (mVar 0) (mCons (mC (.int 3)) (mNil))))) (gN 7))
 (mDo (mMeth "list" vAppend (mVar 6) (mCons (mCall vTuple (mCons (mLc false [13] (mRng1 (mCons (mVar 7) (mNil))) (gN 13) (mYes) (mTup (mCons (mCall M__law_draw (mCons (mVar 0) (mCons (mCall vLen (mCons (mVar 2) (mNil))) (mNil)))) (mCons (mBin vSub (mCall M__law_draw (mCons (mVar 0) (mCons (mC (.int 13)) (mNil)))) (mC (.int 6))) (mNil))))) (mNil))) (mNil)))))
        (xs.map Val.int) [some (.ref 1), some b, some (.ref 2), o, g, r, some (.ref 3), o7, none, none, none, none, none, none] (hs cells st (rpk L pp))
        = some (.nx [some (.ref 1), some b, some (.ref 2), o', g, r, some (.ref 3), o7', none, none, none, none, none, none], hs c' s' (rpk L pp'))
  | [], pp, cells, st, o, o7, hB, hl, hc => ⟨pp, cells, st, o, o7, rfl, hB, hc, by rw [List.map_nil, for_nil]⟩
  | x :: xs, pp, cells, st, o, o7, hB, hl, hc => by
    rw [List.length_cons] at hl
    have w := wfr_rpk L pp
    have pos : 0 < L.length := List.length_pos_iff.mpr hL
    obtain ⟨v, c1, s1, hc1, p1, p2, hd⟩ := call_draw (R := rpk L pp) (cells := cells) (st := st) (m := 3) w hc (by decide) (by decide)
    obtain ⟨k, rfl⟩ : ∃ k : Nat, v = (k : Int) := ⟨v.toNat, by omega⟩
    have e1 : (1 + (k : Int)) = ((k + 1 : Nat) : Int) := by omega
    obtain ⟨vs, c2, s2, l2, qb, hc2, h2⟩ := lc_heap (R := rpk L pp) (g := gN 13) (m := mTup (mCons (mCall M__law_draw (mCons (mVar 0) (mCons (mCall vLen (mCons (mVar 2) (mNil))) (mNil)))) (mCons (mBin vSub (mCall M__law_draw (mCons (mVar 0) (mCons (mC (.int 13)) (mNil)))) (mC (.int 6))) (mNil))))
      (env := [some (.ref 1), some b, some (.ref 2), some (.int x), g, r, some (.ref 3), some (.int ((k + 1 : Nat) : Int)), none, none, none, none, none, none]) pkV (fun q => q.1 < L.length ∧ -6 ≤ q.2 ∧ q.2 ≤ 6) ((List.range (k + 1)).map fun i => Val.int (i : Nat)) (fun y _ cells st hc => by
        obtain ⟨i, c3, s3, hc3, a1, a2, d3⟩ := call_draw (R := rpk L pp) (cells := cells) (st := st) (m := (L.length : Int)) w hc (by omega) (small_log (by omega) (by omega))
        obtain ⟨j, c4, s4, hc4, b1, b2, d4⟩ := call_draw (R := rpk L pp) (cells := c3) (st := s3) (m := 13) w hc3 (by decide) (by decide)
        obtain ⟨i, rfl⟩ : ∃ k : Nat, i = (k : Int) := ⟨i.toNat, by omega⟩
        have ln : vLen [.ref 2] (hs cells st (rpk L pp)) = some (.int (L.length : Nat), hs cells st (rpk L pp)) := by
          rw [len_ref (l := L.map tI) rfl, List.length_map]
        have e2 : 2 ≤ sizeLine := by rw [sizeLine_eq]; omega
        refine ⟨(i, j - 6), c4, s4, _, ⟨by show i < _; omega, by show -6 ≤ j - 6; omega, by show j - 6 ≤ 6; omega⟩, hc4, s_gn .., ?_⟩
        simp [ln, d3, d4, pkV, e2]) c1 s1 hc1
    rw [List.length_map, List.length_range] at l2
    have pb : PkB L vs := ⟨fun z => by rw [z] at l2; simp at l2, by omega, qb⟩
    obtain ⟨pp', c3, s3, o', o7', l3, b3, hc3, hf⟩ := loop_picks hL hL2 (b := b) (g := g) (r := r) xs (pp ++ [vs]) c2 s2 (some (.int x)) (some (.int ((k + 1 : Nat) : Int))) (fun t ht => by
      rcases List.mem_append.mp ht with h | h
      · exact hB t h
      · rw [List.mem_singleton] at h
        rw [h]
        exact pb) (by rw [List.length_append, List.length_singleton]; omega) hc2
    refine ⟨pp', c3, s3, o', o7', by rw [l3, List.length_append, List.length_singleton, List.length_cons]; omega, b3, hc3, ?_⟩
    rw [List.map_cons, for_cons]
    have g3 : (gN 3) (Val.int x) [some (.ref 1), some b, some (.ref 2), o, g, r, some (.ref 3), o7, none, none, none, none, none, none] (hs cells st (rpk L pp)) = some ([some (.ref 1), some b, some (.ref 2), some (.int x), g, r, some (.ref 3), o7, none, none, none, none, none, none], hs cells st (rpk L pp)) := by
      rw [s_gn]; rfl
    rw [g3, bnd_ok]
    have ap : vAppend (.ref 3) [pksV vs] (hs c2 s2 (rpk L pp)) = some (.non, hs c2 s2 (rpk L (pp ++ [vs]))) := by
      have lt : pp.length < sizeLine := by
        rw [sizeLine_eq]; omega
      rw [v_app]
      simp [hs, rpk, lt, refLt_pks]
    have s7 : (mSet (mBin vAdd (mC (.int 1)) (mCall M__law_draw (mCons (mVar 0) (mCons (mC (.int 3)) (mNil))))) (gN 7)) [some (.ref 1), some b, some (.ref 2), some (.int x), g, r, some (.ref 3), o7, none, none, none, none, none, none] (hs cells st (rpk L pp)) = some (.nx [some (.ref 1), some b, some (.ref 2), some (.int x), g, r, some (.ref 3), some (.int ((k + 1 : Nat) : Int)), none, none, none, none, none, none], hs c1 s1 (rpk L pp)) := by
      simp [hd, e1]
    have hI : mRng1 (mCons (mVar 7) (mNil)) [some (.ref 1), some b, some (.ref 2), some (.int x), g, r, some (.ref 3), some (.int ((k + 1 : Nat) : Int)), none, none, none, none, none, none] (hs c1 s1 (rpk L pp)) = some ((List.range (k + 1)).map fun i => Val.int (i : Nat), hs c1 s1 (rpk L pp)) := rng_of (by omega) (by simp)
    have lc : (mLc false [13] (mRng1 (mCons (mVar 7) (mNil))) (gN 13) (mYes) (mTup (mCons (mCall M__law_draw (mCons (mVar 0) (mCons (mCall vLen (mCons (mVar 2) (mNil))) (mNil)))) (mCons (mBin vSub (mCall M__law_draw (mCons (mVar 0) (mCons (mC (.int 13)) (mNil)))) (mC (.int 6))) (mNil))))) [some (.ref 1), some b, some (.ref 2), some (.int x), g, r, some (.ref 3), some (.int ((k + 1 : Nat) : Int)), none, none, none, none, none, none] (hs c1 s1 (rpk L pp)) = some (.fro (vs.map pkV), hs c2 s2 (rpk L pp)) := by
      rw [s_lc, hI, bnd_ok]
      simp only [wipeE, List.set_cons_succ, List.set_cons_zero]
      rw [h2, bnd_ok, if_pos (by rw [List.length_map, l2, sizeLine_eq]; omega)]
      simp only [mk_f]
    have stp : (mDo (mMeth "list" vAppend (mVar 6) (mCons (mCall vTuple (mCons (mLc false [13] (mRng1 (mCons (mVar 7) (mNil))) (gN 13) (mYes) (mTup (mCons (mCall M__law_draw (mCons (mVar 0) (mCons (mCall vLen (mCons (mVar 2) (mNil))) (mNil)))) (mCons (mBin vSub (mCall M__law_draw (mCons (mVar 0) (mCons (mC (.int 13)) (mNil)))) (mC (.int 6))) (mNil))))) (mNil))) (mNil)))) [some (.ref 1), some b, some (.ref 2), some (.int x), g, r, some (.ref 3), some (.int ((k + 1 : Nat) : Int)), none, none, none, none, none, none] (hs c1 s1 (rpk L pp)) = some (.nx [some (.ref 1), some b, some (.ref 2), some (.int x), g, r, some (.ref 3), some (.int ((k + 1 : Nat) : Int)), none, none, none, none, none, none], hs c2 s2 (rpk L (pp ++ [vs]))) := by
      have at3 : (hs c1 s1 (rpk L pp))[3]? = some (.lst (pp.map pksV)) := rfl
      have tu : vTuple [.fro (vs.map pkV)] (hs c2 s2 (rpk L pp)) = some (pksV vs, hs c2 s2 (rpk L pp)) := by rw [v_tupF]; rfl
      have cl : (mCall vTuple (mCons (mLc false [13] (mRng1 (mCons (mVar 7) (mNil))) (gN 13) (mYes) (mTup (mCons (mCall M__law_draw (mCons (mVar 0) (mCons (mCall vLen (mCons (mVar 2) (mNil))) (mNil)))) (mCons (mBin vSub (mCall M__law_draw (mCons (mVar 0) (mCons (mC (.int 13)) (mNil)))) (mC (.int 6))) (mNil))))) (mNil))) [some (.ref 1), some b, some (.ref 2), some (.int x), g, r, some (.ref 3), some (.int ((k + 1 : Nat) : Int)), none, none, none, none, none, none] (hs c1 s1 (rpk L pp)) = some (pksV vs, hs c2 s2 (rpk L pp)) := by
        rw [s_call, s_cons, lc, bnd_ok, s_nil, bnd_ok, bnd_ok, tu]
      generalize (mCall vTuple (mCons (mLc false [13] (mRng1 (mCons (mVar 7) (mNil))) (gN 13) (mYes) (mTup (mCons (mCall M__law_draw (mCons (mVar 0) (mCons (mCall vLen (mCons (mVar 2) (mNil))) (mNil)))) (mCons (mBin vSub (mCall M__law_draw (mCons (mVar 0) (mCons (mC (.int 13)) (mNil)))) (mC (.int 6))) (mNil))))) (mNil))) = mm at cl
      generalize pksV vs = ts at ap cl ⊢
      generalize ((k + 1 : Nat) : Int) = kk at cl ⊢
      simp [cl, ap, at3, -v_app]
    rw [s_then, s7, bnd_ok]
    simp only []
    rw [stp, bnd_ok]
    exact hf
end T17
namespace T17
open PySem PySem.Spec PyProof.Rows L2 Fx
def lowI (i : Int) : Prop := i.natAbs < 10 ^ 38
theorem log_low {i : Int} (h : lowI i) : i.natAbs.log2 < 128 := by
  unfold lowI at h
  by_cases h0 : i.natAbs = 0
  · rw [h0]; decide
  · exact (Nat.log2_lt h0).mpr (Nat.lt_of_lt_of_le h (by decide))
theorem short_low {i : Int} (h : lowI i) : PyData.leavesShort 40 (.int i) = true := by
  have e := int_text_length_le10 (k := 38) (by decide) h
  rw [PyData.leavesShort, decide_eq_true_eq]
  show (Str.ofString (toString i)).length ≤ 40
  rw [PySem.ofString_length]; omega
theorem weight_low {i : Int} (h : lowI i) : PyData.weight (.int i) ≤ 130 := by
  have := log_low h
  rw [PyData.weight]
  split
  · omega
  · omega
theorem short_ints : ∀ {l : List Int}, (∀ x ∈ l, lowI x) → PyData.leavesShortAll 40 (l.map .int) = true
  | [], _ => by rw [List.map_nil, PyData.leavesShortAll]
  | x :: l, h => by rw [List.map_cons, PyData.leavesShortAll, short_low (h x (by simp)), short_ints fun y hy => h y (by simp [hy])]; rfl
theorem show_ints : ∀ {l : List Int}, (∀ x ∈ l, lowI x) → PyData.showableAll (l.map .int) = true
  | [], _ => by rw [List.map_nil, PyData.showableAll]
  | x :: l, h => by
    have := log_low (h x (by simp))
    rw [List.map_cons, PyData.showableAll, show_ints fun y hy => h y (by simp [hy]), PyData.showable, decide_eq_true (by omega)]; rfl
theorem weight_ints : ∀ {l : List Int}, (∀ x ∈ l, lowI x) → PyData.weightAll (l.map .int) ≤ 131 * l.length
  | [], _ => by rw [List.map_nil, PyData.weightAll]; omega
  | x :: l, h => by
    have h1 := weight_low (h x (by simp))
    have h2 := weight_ints (l := l) fun y hy => h y (by simp [hy])
    rw [List.map_cons, PyData.weightAll, List.length_cons]
    omega
theorem repr_tI {l : List Int} {S : Store} (h : ∀ x ∈ l, lowI x) (hl : l.length ≤ 900) : vRepr [tI l] S = some (.str (PyData.shown (tP l)), S) := by
  have hw := weight_ints h
  have hc : PyData.canLay0 (tP l) = true := lay_tP l
  have hd : PyData.depth (tP l) ≤ 60 := by have := depth_tP l; omega
  have hs := PyData.shown_le 40 (by decide) (tP l) (by unfold tP; rw [PyData.leavesShort]; exact short_ints h)
  have hwt : PyData.weight (tP l) ≤ 200000 := by unfold tP; rw [PyData.weight]; omega
  have hz : (tP l).shown.length ≤ sizeLine := by rw [sizeLine_eq]; omega
  have ok : reprOk (tP l) = true := by
    unfold reprOk
    rw [decide_eq_true hd, decide_eq_true hz, show PyData.showable (tP l) = true by unfold tP; rw [PyData.showable]; exact show_ints h, PyData.hasDict_of_canLay _ hc]
    rfl
  have e : pyOf S (tI l) = some (tP l) := by
    unfold pyOf tI topV
    exact toPy_tI l
  show (pyOf S _).bind _ = _
  rw [e, Option.bind_some, if_pos ok]
def lP (R : List (List Int)) : PyData := .tuple (R.map tP)
theorem short_rows : ∀ {R : List (List Int)}, (∀ l ∈ R, ∀ x ∈ l, lowI x) → PyData.leavesShortAll 40 (R.map tP) = true
  | [], _ => by rw [List.map_nil, PyData.leavesShortAll]
  | l :: R, h => by
    rw [List.map_cons, PyData.leavesShortAll, short_rows fun y hy => h y (by simp [hy])]
    unfold tP
    rw [PyData.leavesShort, short_ints (h l (by simp))]; rfl
theorem show_rows : ∀ {R : List (List Int)}, (∀ l ∈ R, ∀ x ∈ l, lowI x) → PyData.showableAll (R.map tP) = true
  | [], _ => by rw [List.map_nil, PyData.showableAll]
  | l :: R, h => by
    rw [List.map_cons, PyData.showableAll, show_rows fun y hy => h y (by simp [hy])]
    unfold tP
    rw [PyData.showable, show_ints (h l (by simp))]; rfl
theorem weight_rows {n : Nat} : ∀ {R : List (List Int)}, (∀ l ∈ R, ∀ x ∈ l, lowI x) → (∀ l ∈ R, l.length ≤ n) → PyData.weightAll (R.map tP) ≤ (131 * n + 10) * R.length
  | [], _, _ => by rw [List.map_nil, PyData.weightAll]; omega
  | l :: R, h, k => by
    have h1 := weight_ints (h l (by simp))
    have k1 := k l (by simp)
    have h2 := weight_rows (R := R) (fun y hy => h y (by simp [hy])) (fun y hy => k y (by simp [hy]))
    rw [List.map_cons, PyData.weightAll, List.length_cons, Nat.mul_add, Nat.mul_one]
    have h3 : PyData.weight (tP l) ≤ 131 * n + 8 := by unfold tP; rw [PyData.weight]; omega
    omega
theorem repr_tR {R : List (List Int)} {S : Store} (h : ∀ l ∈ R, ∀ x ∈ l, lowI x) (k : ∀ l ∈ R, l.length ≤ 40) (hl : R.length ≤ 40) : vRepr [tR R] S = some (.str (PyData.shown (lP R)), S) := by
  have hw := weight_rows h k
  have hw2 : (131 * 40 + 10) * R.length ≤ (131 * 40 + 10) * 40 := Nat.mul_le_mul_left _ hl
  have hc : PyData.canLay0 (lP R) = true := by unfold lP; rw [PyData.canLay0]; exact lay_map lay_tP R
  have hd : PyData.depth (lP R) ≤ 60 := by
    have := depth_map depth_tP R
    unfold lP; rw [PyData.depth]; omega
  have hs := PyData.shown_le 40 (by decide) (lP R) (by unfold lP; rw [PyData.leavesShort]; exact short_rows h)
  have hwt : PyData.weight (lP R) ≤ 300000 := by unfold lP; rw [PyData.weight]; omega
  have hz : (lP R).shown.length ≤ sizeLine := by rw [sizeLine_eq]; omega
  have ok : reprOk (lP R) = true := by
    unfold reprOk
    rw [decide_eq_true hd, decide_eq_true hz, show PyData.showable (lP R) = true by unfold lP; rw [PyData.showable]; exact show_rows h, PyData.hasDict_of_canLay _ hc]
    rfl
  have e : pyOf S (tR R) = some (lP R) := by
    unfold pyOf tR topV
    show toPy (.tup (R.map tI)) = _
    unfold toPy
    rw [toPyL_map toPy_tI R]
    rfl
  show (pyOf S _).bind _ = _
  rw [e, Option.bind_some, if_pos ok]
end T17
namespace T17
open PySem PySem.Spec PyProof.Rows L2 Fx
/-- a bound for all entries -/
def Bnd (B : Int) (L : List (List Int)) : Prop := ∀ s ∈ L, ∀ x ∈ s, -B ≤ x ∧ x ≤ B
theorem bnd_at {B : Int} {L : List (List Int)} (h : Bnd B L) (h0 : 0 ≤ B) {s : List Int} (hs : s ∈ L) (t : Nat) : -B ≤ s.getD t 0 ∧ s.getD t 0 ≤ B := by
  by_cases k : t < s.length
  · have e : s.getD t 0 = s[t] := by simp [List.getD, List.getElem?_eq_getElem k]
    rw [e]
    exact h s hs _ (List.getElem_mem k)
  · have e : s.getD t 0 = 0 := by simp [List.getD, List.getElem?_eq_none (Nat.le_of_not_lt k)]
    rw [e]
    exact ⟨by omega, h0⟩
theorem hullE_bnd {B : Int} {L : List (List Int)} (h : Bnd B L) (h0 : 0 ≤ B) (hL : L ≠ []) (a t : Nat) : -(2 * B) ≤ hullE L a t ∧ hullE L a t ≤ 2 * B := by
  obtain ⟨s, hs, e⟩ := hullE_is hL a t
  have h1 := bnd_at h h0 hs a
  have h2 := bnd_at h h0 hs t
  exact ⟨by omega, by omega⟩
theorem hull_low {B : Int} {L : List (List Int)} {n : Nat} (h : Bnd B L) (h0 : 0 ≤ B) (hB : B ≤ 10 ^ 30) (hL : L ≠ []) : ∀ l ∈ hull L n, ∀ x ∈ l, lowI x := fun l hl x hx => by
  unfold hull at hl
  obtain ⟨a, _, rfl⟩ := List.mem_map.mp hl
  obtain ⟨t, _, rfl⟩ := List.mem_map.mp hx
  have := hullE_bnd h h0 hL a t
  unfold lowI
  omega
theorem hull_row_len {L : List (List Int)} {n : Nat} : ∀ l ∈ hull L n, l.length = n := fun l hl => by
  unfold hull at hl
  obtain ⟨a, _, rfl⟩ := List.mem_map.mp hl
  rw [List.length_map, List.length_range]
theorem mix_low {B : Int} {L : List (List Int)} {n : Nat} {pp : List (List Pk)} (h : Bnd B L) (h0 : 0 ≤ B) (hB : B ≤ 10 ^ 30) (hp : ∀ ps ∈ pp, PkB L ps) (hne : pp ≠ []) : ∀ x ∈ mix L n pp, lowI x := fun x hx => by
  unfold mix at hx
  obtain ⟨p, _, rfl⟩ := List.mem_map.mp hx
  have m1 := most_mem (ns := pp.map (psE L p)) (by simpa using hne)
  obtain ⟨ps, hps, e1⟩ := List.mem_map.mp m1
  have m2 := least_mem (ns := ps.map (pkE L p)) (by simpa using (hp ps hps).1)
  obtain ⟨q, hq, e2⟩ := List.mem_map.mp m2
  obtain ⟨i1, i2, i3⟩ := (hp ps hps).2.2 q hq
  have hm : L.getD q.1 [] ∈ L := by
    have e : L.getD q.1 [] = L[q.1] := by simp [List.getD, List.getElem?_eq_getElem i1]
    rw [e]
    exact List.getElem_mem i1
  have b := bnd_at h h0 hm p
  have e : mixE L pp p = pkE L p q := by
    show most (pp.map (psE L p)) = _
    rw [← e1]
    show least (ps.map (pkE L p)) = _
    rw [← e2]
  rw [e]
  unfold pkE lowI
  omega
theorem pkok_of {L : List (List Int)} {pp : List (List Pk)} (hp : ∀ ps ∈ pp, PkB L ps) (hne : pp ≠ []) (hl : pp.length ≤ 900) : PkOk L pp where
  ne := hne
  some := fun ps h => (hp ps h).1
  ix := fun ps h q hq => ((hp ps h).2.2 q hq).1
  few := by omega
  few2 := fun ps h => by have := (hp ps h).2.1; omega
end T17
namespace T17
open PySem PySem.Spec PyProof.Rows L2 Fx
theorem cutD_from1 (l : List Val) (k : Nat) (h : k < l.length) : cutD l (some ((k : Int) + 1)) none = l.drop (k + 1) := by
  have e : ((k : Int) + 1) = ((k + 1 : Nat) : Int) := by omega
  rw [e]
  unfold Fx.cutD
  rw [HT.sIx_nat, HT.sIx_none, Nat.min_eq_left (by omega)]
  exact List.take_of_length_le (by rw [List.length_drop]; omega)
/-- one point changed, and judged -/
theorem loop_pts {L : List (List Int)} {n : Nat} {due : List Int} {R : Store} (w : WfR R) (hL : L ≠ []) (hn : ∀ s ∈ L, s.length = n) (hz : n ≤ 900) (hz2 : L.length ≤ 900) (hd : due.length = n) {b b2 b3 b5 b6 b7 b9 b12 b13 : Option Val} :
    ∀ (xs : List Nat) (cells : List Int) (st : Int) (o o2 : Option Val), (∀ x ∈ xs, x < n) → cells.length ≤ 60 → ∃ (c' : List Int) (s' : Int) (o' o2' : Option Val), c'.length ≤ 60 ∧
      forL (gN 10) (mThen (mSet (mCall M__law_pick (mCons (mVar 0) (mCons (mFro (mCons (mC (.int 1)) (mCons (mBin vSub (mC (.int 0)) (mC (.int 1))) (mCons (mC (.int 2)) (mCons (mBin vPow (mC (.int 10)) (mC (.int 23))) (mNil)))))) (mNil)))) (gN 11))
 (mWhen (mNot (mTru (mCall M__law_picks_right (mCons (mVar 4) (mCons (mBin vAdd (mBin vAdd (mSl (vSl false) (mVar 8) (mNo) (mPart (mVar 10))) (mTup (mCons (mBin vAdd (mBin vIx (mVar 8) (mVar 10)) (mVar 11)) (mNil)))) (mSl (vSl false) (mVar 8) (mPart (mBin vAdd (mVar 10) (mC (.int 1)))) (mNo))) (mNil)))))) (mRet (mC (.bl false))) (mSkip)))
        (xs.map fun i => Val.int (i : Nat)) [some (.ref 1), b, b2, b3, some (tR L), b5, b6, b7, some (tI due), b9, o, o2, b12, b13] (hs cells st R)
        = some (.nx [some (.ref 1), b, b2, b3, some (tR L), b5, b6, b7, some (tI due), b9, o', o2', b12, b13], hs c' s' R)
  | [], cells, st, o, o2, _, hc => ⟨cells, st, o, o2, hc, by rw [List.map_nil, for_nil]⟩
  | x :: xs, cells, st, o, o2, hx, hc => by
    have hxn := hx x (by simp)
    obtain ⟨z, c1, s1, hc1, hz1, hp⟩ := call_pick (R := R) (cells := cells) (st := st) (l := [.int 1, .int (-1), .int 2, .int (10 ^ 23)]) w hc (by simp) (by simp) (by simp)
    obtain ⟨k, rfl⟩ : ∃ k : Int, z = .int k := by
      simp only [List.mem_cons, List.mem_nil_iff, or_false] at hz1
      rcases hz1 with rfl | rfl | rfl | rfl <;> exact ⟨_, rfl⟩
    obtain ⟨c2, s2, o', o2', hc2, hf⟩ := loop_pts w hL hn hz hz2 hd (b := b) (b2 := b2) (b3 := b3) (b5 := b5) (b6 := b6) (b7 := b7) (b9 := b9) (b12 := b12) (b13 := b13) xs c1 s1 (some (.int (x : Nat))) (some (.int k)) (fun y hy => hx y (by simp [hy])) hc1
    refine ⟨c2, s2, o', o2', hc2, ?_⟩
    have cr := call_right (v := due.take x ++ (due.getD x 0 + k) :: due.drop (x + 1)) (w c1 s1) hL hn hz hz2 (by rw [List.length_append, List.length_cons, List.length_take, List.length_drop]; omega)
    have xl : x < due.length := by omega
    have e2 : due.length ≤ sizeLine := by rw [sizeLine_eq]; omega
    have gx : due.getD x 0 = due[x] := by simp [List.getD, List.getElem?_eq_getElem xl]
    have sl1 : vSl false (tI due) none (some (x : Int)) (hs c1 s1 R) = some (.tup ((due.take x).map Val.int), hs c1 s1 R) := by
      unfold tI; rw [v_slT, cutD_to, List.map_take]
    have sl2 : vSl false (tI due) (some ((x : Int) + 1)) none (hs c1 s1 R) = some (.tup ((due.drop (x + 1)).map Val.int), hs c1 s1 R) := by
      unfold tI; rw [v_slT, cutD_from1 _ _ (by rw [List.length_map]; exact xl), List.map_drop]
    have ix : vIx (tI due) (.int (x : Int)) (hs c1 s1 R) = some (.int (due.getD x 0), hs c1 s1 R) := by
      unfold tI; rw [v_ixT, gx, List.getElem?_map, List.getElem?_eq_getElem xl]; rfl
    have tt : tI (due.take x ++ (due.getD x 0 + k) :: due.drop (x + 1)) = .tup ((due.take x).map Val.int ++ [.int (due.getD x 0 + k)] ++ (due.drop (x + 1)).map Val.int) := by
      unfold tI; simp
    rw [tt] at cr
    have z1 : ((due.take x).map Val.int).length + 1 ≤ sizeLine := by rw [List.length_map, List.length_take, sizeLine_eq]; omega
    have z2 : ((due.take x).map Val.int ++ [Val.int (due.getD x 0 + k)]).length + ((due.drop (x + 1)).map Val.int).length ≤ sizeLine := by
      rw [List.length_append, List.length_map, List.length_map, List.length_take, List.length_drop, List.length_singleton, sizeLine_eq]; omega
    have a1 : vAdd (.tup ((due.take x).map Val.int)) (.tup [.int (due.getD x 0 + k)]) (hs c1 s1 R) = some (.tup ((due.take x).map Val.int ++ [.int (due.getD x 0 + k)]), hs c1 s1 R) := by
      rw [v_addT, if_pos (by rw [List.length_singleton]; exact z1)]
    have a2 : vAdd (.tup ((due.take x).map Val.int ++ [.int (due.getD x 0 + k)])) (.tup ((due.drop (x + 1)).map Val.int)) (hs c1 s1 R) = some (.tup ((due.take x).map Val.int ++ [.int (due.getD x 0 + k)] ++ (due.drop (x + 1)).map Val.int), hs c1 s1 R) := by
      rw [v_addT, if_pos z2]
    have lf : mFro (mCons (mC (.int 1)) (mCons (mBin vSub (mC (.int 0)) (mC (.int 1))) (mCons (mC (.int 2)) (mCons (mBin vPow (mC (.int 10)) (mC (.int 23))) (mNil))))) [some (.ref 1), b, b2, b3, some (tR L), b5, b6, b7, some (tI due), b9, some (.int (x : Nat)), o2, b12, b13] (hs cells st R) = some (.fro [.int 1, .int (-1), .int 2, .int (10 ^ 23)], hs cells st R) := by
      have e4 : 4 ≤ sizeLine := by rw [sizeLine_eq]; omega
      generalize hq : (10 : Int) ^ 23 = q
      have pq := p23
      rw [hq] at pq
      simp [pq, e4, -Fx.v_pow]
    rw [List.map_cons, for_cons]
    have g3 : (gN 10) (Val.int (x : Nat)) [some (.ref 1), b, b2, b3, some (tR L), b5, b6, b7, some (tI due), b9, o, o2, b12, b13] (hs cells st R) = some ([some (.ref 1), b, b2, b3, some (tR L), b5, b6, b7, some (tI due), b9, some (.int (x : Nat)), o2, b12, b13], hs cells st R) := by
      rw [s_gn]; rfl
    rw [g3, bnd_ok]
    generalize mFro _ = mf at lf hf ⊢
    generalize (10 : Int) ^ 23 = q at lf hp
    have st1 : (mSet (mCall M__law_pick (mCons (mVar 0) (mCons mf (mNil)))) (gN 11)) [some (.ref 1), b, b2, b3, some (tR L), b5, b6, b7, some (tI due), b9, some (.int (x : Nat)), o2, b12, b13] (hs cells st R) = some (.nx [some (.ref 1), b, b2, b3, some (tR L), b5, b6, b7, some (tI due), b9, some (.int (x : Nat)), some (.int k), b12, b13], hs c1 s1 R) := by
      simp [lf, hp]
    rw [s_then, st1, bnd_ok]
    simp only []
    generalize (due.take x).map Val.int = u1 at *
    generalize (due.drop (x + 1)).map Val.int = u2 at *
    generalize due.getD x 0 = u3 at *
    have wn : (mWhen (mNot (mTru (mCall M__law_picks_right (mCons (mVar 4) (mCons (mBin vAdd (mBin vAdd (mSl (vSl false) (mVar 8) (mNo) (mPart (mVar 10))) (mTup (mCons (mBin vAdd (mBin vIx (mVar 8) (mVar 10)) (mVar 11)) (mNil)))) (mSl (vSl false) (mVar 8) (mPart (mBin vAdd (mVar 10) (mC (.int 1)))) (mNo))) (mNil)))))) (mRet (mC (.bl false))) (mSkip)) [some (.ref 1), b, b2, b3, some (tR L), b5, b6, b7, some (tI due), b9, some (.int (x : Nat)), some (.int k), b12, b13] (hs c1 s1 R) = some (.nx [some (.ref 1), b, b2, b3, some (tR L), b5, b6, b7, some (tI due), b9, some (.int (x : Nat)), some (.int k), b12, b13], hs c1 s1 R) := by
      have e1 : 1 ≤ sizeLine := by rw [sizeLine_eq]; omega
      generalize tI due = td at *
      generalize tR L = tl at *
      generalize (x : Int) = xx at *
      have tb : truD (hs c1 s1 R) (.bl true) = some true := by simp [truD]
      simp [tb, sl1, sl2, ix, a1, a2, cr, e1, -v_addT, -List.append_assoc]
    rw [wn, bnd_ok]
    exact hf
end T17
namespace T17
open PySem PySem.Spec PyProof.Rows L2 Fx
/-- all drawn settings keep the hull's rows -/
theorem lc_all {L : List (List Int)} {n : Nat} {S : Store} (w : Wf S) (hn : ∀ s ∈ L, s.length = n) (hz : n ≤ 900) {b0 b1 b2 b3 b4 b6 b7 b8 b9 b10 b11 b12 b13 : Option Val} : ∀ (M : List (List Int)), (∀ s ∈ M, s ∈ L) →
    lcL (gN 12) mYes (mCall M_is_setting (mCons (mVar 5) (mCons (mVar 12) (mNil)))) [b0, b1, b2, b3, b4, some (tR (hull L n)), b6, b7, b8, b9, b10, b11, b12, b13] (M.map tI) S = some ((M.map fun _ => true).map Val.bl, S) := fun M hM =>
  lc_map2 tI Val.bl (fun _ => true) M fun s hs => by
    have hl := hn s (hM s hs)
    have c := call_setting (R := hull L n) (s := s) w (fun r hr => by rw [hull_row_len r hr, hl]) (by rw [hull_len, hl]) (by omega)
    rw [hull_self (hM s hs)] at c
    refine ⟨_, s_gn .., ?_⟩
    generalize tI s = ts at c ⊢
    generalize tR (hull L n) = tr at c ⊢
    simp [c]
theorem start_many {n : Nat} {cells : List Int} {st : Int} : (mSet (mLst (mNil)) (gN 2)) (startE N__law_many_right [.ref 1, .int (n : Int)]) (hs cells st []) = some (.nx [some (.ref 1), some (.int (n : Int)), some (.ref 2), none, none, none, none, none, none, none, none, none, none, none], hs cells st (rset [])) := by
  rw [show startE N__law_many_right [.ref 1, .int (n : Int)] = [some (.ref 1), some (.int (n : Int)), none, none, none, none, none, none, none, none, none, none, none, none] from rfl]
  simp [hs, rset]
/-- the first for: settings drawn -/
theorem draw_sets {n : Nat} (hz : n ≤ 900) {cells : List Int} {st : Int} (hc : cells.length ≤ 60) : ∃ (L : List (List Int)) (c' : List Int) (s' : Int) (o' : Option Val), L ≠ [] ∧ L.length ≤ 6 ∧ Bnd (10 ^ 24 + 138) L ∧ (∀ s ∈ L, s.length = n) ∧ c'.length ≤ 60 ∧
    (mFor (mRng1 (mCons (mBin vAdd (mC (.int 1)) (mCall M__law_draw (mCons (mVar 0) (mCons (mC (.int 6)) (mNil))))) (mNil))) (gN 3) (mDo (mMeth "list" vAppend (mVar 2) (mCons (mCall M__law_setting (mCons (mVar 0) (mCons (mVar 1) (mCons (mVar 2) (mNil))))) (mNil))))) [some (.ref 1), some (.int (n : Int)), some (.ref 2), none, none, none, none, none, none, none, none, none, none, none] (hs cells st (rset []))
      = some (.nx [some (.ref 1), some (.int (n : Int)), some (.ref 2), o', none, none, none, none, none, none, none, none, none, none], hs c' s' (rset L)) := by
  obtain ⟨v, c1, s1, hc1, p1, p2, hd⟩ := call_draw (R := rset []) (cells := cells) (st := st) (m := 6) (wfr_rset []) hc (by decide) (by decide)
  obtain ⟨k, rfl⟩ : ∃ k : Nat, v = (k : Int) := ⟨v.toNat, by omega⟩
  have e1 : (1 + (k : Int)) = ((k + 1 : Nat) : Int) := by omega
  obtain ⟨L, c2, s2, o', l2, b2, n2, hc2, hf⟩ := loop_set hz (e := [none, none, none, none, none, none, none, none, none, none]) ((List.range (k + 1)).map fun i => ((i : Nat) : Int)) [] c1 s1 (10 ^ 24) none (by omega) (fun s h => by simp at h) (fun s h => by simp at h) (by simp; omega) hc1
  rw [List.length_map, List.length_range] at l2 b2
  rw [List.length_nil] at l2
  refine ⟨L, c2, s2, o', fun z => by rw [z] at l2; simp at l2, by omega, fun s hs x hx => ?_, n2, hc2, ?_⟩
  · have := b2 s hs x hx
    exact ⟨by omega, by omega⟩
  · have ar : (mCons (mBin vAdd (mC (.int 1)) (mCall M__law_draw (mCons (mVar 0) (mCons (mC (.int 6)) (mNil))))) (mNil)) [some (.ref 1), some (.int (n : Int)), some (.ref 2), none, none, none, none, none, none, none, none, none, none, none] (hs cells st (rset [])) = some ([.int ((k + 1 : Nat) : Int)], hs c1 s1 (rset [])) := by
      simp [hd, e1]
    have e3 : (k + 1) ≤ 1000000 := by omega
    rw [s_for]
    have rg : mRng1 (mCons (mBin vAdd (mC (.int 1)) (mCall M__law_draw (mCons (mVar 0) (mCons (mC (.int 6)) (mNil))))) (mNil)) [some (.ref 1), some (.int (n : Int)), some (.ref 2), none, none, none, none, none, none, none, none, none, none, none] (hs cells st (rset [])) = some ((List.range (k + 1)).map fun i => Val.int (i : Nat), hs c1 s1 (rset [])) := by
      rw [← rangeV_nat]
      exact rng1_of e3 ar
    rw [rg, bnd_ok]
    rw [List.map_map] at hf
    exact hf
end T17
namespace T17
open PySem PySem.Spec PyProof.Rows L2 Fx
/-- the second for: picks drawn -/
theorem draw_picks {L : List (List Int)} (hL : L ≠ []) (hL2 : L.length ≤ 900) {b : Val} {o g r : Option Val} {cells : List Int} {st : Int} (hc : cells.length ≤ 60) : ∃ (pp : List (List Pk)) (c' : List Int) (s' : Int) (o' o7' : Option Val), pp ≠ [] ∧ pp.length ≤ 4 ∧ (∀ ps ∈ pp, PkB L ps) ∧ c'.length ≤ 60 ∧
    (mFor (mRng1 (mCons (mBin vAdd (mC (.int 1)) (mCall M__law_draw (mCons (mVar 0) (mCons (mC (.int 4)) (mNil))))) (mNil))) (gN 3) (mThen (mSet (mBin vAdd (mC (.int 1)) (mCall M__law_draw (mCons (mVar 0) (mCons (mC (.int 3)) (mNil))))) (gN 7))
 (mDo (mMeth "list" vAppend (mVar 6) (mCons (mCall vTuple (mCons (mLc false [13] (mRng1 (mCons (mVar 7) (mNil))) (gN 13) (mYes) (mTup (mCons (mCall M__law_draw (mCons (mVar 0) (mCons (mCall vLen (mCons (mVar 2) (mNil))) (mNil)))) (mCons (mBin vSub (mCall M__law_draw (mCons (mVar 0) (mCons (mC (.int 13)) (mNil)))) (mC (.int 6))) (mNil))))) (mNil))) (mNil)))))) [some (.ref 1), some b, some (.ref 2), o, g, r, some (.ref 3), none, none, none, none, none, none, none] (hs cells st (rpk L []))
      = some (.nx [some (.ref 1), some b, some (.ref 2), o', g, r, some (.ref 3), o7', none, none, none, none, none, none], hs c' s' (rpk L pp)) := by
  obtain ⟨v, c1, s1, hc1, p1, p2, hd⟩ := call_draw (R := rpk L []) (cells := cells) (st := st) (m := 4) (wfr_rpk L []) hc (by decide) (by decide)
  obtain ⟨k, rfl⟩ : ∃ k : Nat, v = (k : Int) := ⟨v.toNat, by omega⟩
  have e1 : (1 + (k : Int)) = ((k + 1 : Nat) : Int) := by omega
  obtain ⟨pp, c2, s2, o', o7', l2, b2, hc2, hf⟩ := loop_picks hL hL2 (b := b) (g := g) (r := r) ((List.range (k + 1)).map fun i => ((i : Nat) : Int)) [] c1 s1 o none (fun s h => by simp at h) (by simp; omega) hc1
  rw [List.length_map, List.length_range, List.length_nil] at l2
  refine ⟨pp, c2, s2, o', o7', fun z => by rw [z] at l2; simp at l2, by omega, b2, hc2, ?_⟩
  have ar : (mCons (mBin vAdd (mC (.int 1)) (mCall M__law_draw (mCons (mVar 0) (mCons (mC (.int 4)) (mNil))))) (mNil)) [some (.ref 1), some b, some (.ref 2), o, g, r, some (.ref 3), none, none, none, none, none, none, none] (hs cells st (rpk L [])) = some ([.int ((k + 1 : Nat) : Int)], hs c1 s1 (rpk L [])) := by
    simp [hd, e1]
  rw [s_for]
  have rg : mRng1 (mCons (mBin vAdd (mC (.int 1)) (mCall M__law_draw (mCons (mVar 0) (mCons (mC (.int 4)) (mNil))))) (mNil)) [some (.ref 1), some b, some (.ref 2), o, g, r, some (.ref 3), none, none, none, none, none, none, none] (hs cells st (rpk L [])) = some ((List.range (k + 1)).map fun i => Val.int (i : Nat), hs c1 s1 (rpk L [])) := by
    rw [← rangeV_nat]
    exact rng1_of (by omega) ar
  rw [rg, bnd_ok]
  rw [List.map_map] at hf
  exact hf
/-- given and rows -/
theorem set_given {L : List (List Int)} {n : Nat} {b o : Option Val} {cells : List Int} {st : Int} (hL : L ≠ []) (hn : ∀ s ∈ L, s.length = n) (hz : n ≤ 900) (hL2 : L.length ≤ 900) :
    (mSet (mTup (mCons (mCall vTuple (mCons (mVar 2) (mNil))) (mCons (mCall M__law_hull (mCons (mVar 2) (mNil))) (mNil)))) (gT 2 (gCons' (gN 4) (gCons' (gN 5) (gNil'))))) [some (.ref 1), b, some (.ref 2), o, none, none, none, none, none, none, none, none, none, none] (hs cells st (rset L))
      = some (.nx [some (.ref 1), b, some (.ref 2), o, some (tR L), some (tR (hull L n)), none, none, none, none, none, none, none, none], hs cells st (rset L)) := by
  have h2 : (hs cells st (rset L))[2]? = some (.lst (L.map tI)) := rfl
  have ch := call_lhullR (r := 2) (wfr_rset L cells st) hL hn (by omega) (by omega) h2
  have tu : vTuple [.ref 2] (hs cells st (rset L)) = some (tR L, hs cells st (rset L)) := by
    rw [v_tupR, lst_ref, h2]; rfl
  have e2 : 2 ≤ sizeLine := by rw [sizeLine_eq]; omega
  generalize tR L = tl at *
  generalize tR (hull L n) = tr at *
  simp [ch, tu, e2, -v_tupR]
end T17
namespace T17
open PySem PySem.Spec PyProof.Rows L2 Fx
/-- the first test of _law_many_right -/
theorem test_rows {L : List (List Int)} {n : Nat} {b b2 o : Option Val} {S : Store} (w : Wf S) (hB : Bnd (10 ^ 24 + 138) L) (hL : L ≠ []) (hn : ∀ s ∈ L, s.length = n) (hz : n ≤ 40) (hL2 : L.length ≤ 40) :
    (mWhen (mOr (mTest (mBin vNe (mCall vRepr (mCons (mCall M_hull_rows (mCons (mVar 4) (mNil))) (mNil))) (mCall vRepr (mCons (mVar 5) (mNil))))) (mOr (mTest (mBin vNe (mCall M_heaviest (mCons (mVar 5) (mNil))) (mVar 5))) (mNot (mTru (mCall vAll (mCons (mLc false [12] (mItems (mVar 4)) (gN 12) (mYes) (mCall M_is_setting (mCons (mVar 5) (mCons (mVar 12) (mNil))))) (mNil))))))) (mRet (mC (.bl false))) (mSkip)) [some (.ref 1), b, b2, o, some (tR L), some (tR (hull L n)), none, none, none, none, none, none, none, none] S
      = some (.nx [some (.ref 1), b, b2, o, some (tR L), some (tR (hull L n)), none, none, none, none, none, none, none, none], S) := by
  have ch := call_hull (S := S) w hL hn (by omega) (by omega)
  have rp := repr_tR (S := S) (hull_low (n := n) hB (by decide) (by decide) hL) (fun l hl => by rw [hull_row_len l hl]; omega) (by rw [hull_len]; omega)
  have hv := call_heaviest (S := S) w (hull_len L n) (hull_row_len (L := L)) (by omega) (fun a ha => by rw [hull_at ha ha]; exact hull_zero hL a) (fun a m t ha hm ht => by rw [hull_at ha hm, hull_at hm ht, hull_at ha ht]; exact hull_tri hL a m t)
  have sf := self_tR (S := S) true (hull L n)
  have lc := lc_all (S := S) w hn (by omega) (b0 := some (.ref 1)) (b1 := b) (b2 := b2) (b3 := o) (b4 := some (tR L)) (b6 := none) (b7 := none) (b8 := none) (b9 := none) (b10 := none) (b11 := none) (b12 := none) (b13 := none) L (fun s h => h)
  have it : mItems (mVar 4) [some (.ref 1), b, b2, o, some (tR L), some (tR (hull L n)), none, none, none, none, none, none, none, none] S = some (L.map tI, S) := by unfold tR; simp
  have all_t : ((L.map fun _ => true).all fun b => b) = true := by simp
  have ml : (mLc false [12] (mItems (mVar 4)) (gN 12) (mYes) (mCall M_is_setting (mCons (mVar 5) (mCons (mVar 12) (mNil))))) [some (.ref 1), b, b2, o, some (tR L), some (tR (hull L n)), none, none, none, none, none, none, none, none] S = some (.fro ((L.map fun _ => true).map Val.bl), S) := by
    rw [s_lc, it, bnd_ok]
    simp only [wipeE, List.set_cons_succ, List.set_cons_zero]
    rw [lc, bnd_ok, if_pos (by rw [List.length_map, List.length_map, sizeLine_eq]; omega)]
    rfl
  generalize (L.map fun _ => true) = bs at ml all_t
  generalize mLc _ _ _ _ _ _ = mm at ml ⊢
  generalize tR (hull L n) = tr at *
  generalize tR L = tl at *
  generalize PyData.shown _ = z at rp
  simp [ch, rp, hv, sf, ml, all_t, truD]
end T17
namespace T17
open PySem PySem.Spec PyProof.Rows L2 Fx
/-- the mixture, told twice -/
theorem par_mix {L : List (List Int)} {n : Nat} {pp : List (List Pk)} {b o r o7 : Option Val} {cells : List Int} {st : Int} (hL : L ≠ []) (hn : ∀ s ∈ L, s.length = n) (hz : n ≤ 900) (P : PkOk L pp) :
    (mPar 8 9 (mCons (mCall M__law_mixture (mCons (mVar 4) (mCons (mCall vTuple (mCons (mVar 6) (mNil))) (mNil)))) (mCons (mCall M_mixture (mCons (mVar 4) (mCons (mCall vTuple (mCons (mVar 6) (mNil))) (mNil)))) (mNil)))) [some (.ref 1), b, some (.ref 2), o, some (tR L), r, some (.ref 3), o7, none, none, none, none, none, none] (hs cells st (rpk L pp))
      = some (.nx [some (.ref 1), b, some (.ref 2), o, some (tR L), r, some (.ref 3), o7, some (tI (mix L n pp)), some (tI (mix L n pp)), none, none, none, none], hs cells st (rpk L pp)) := by
  have w := wfr_rpk L pp cells st
  have tu : vTuple [.ref 3] (hs cells st (rpk L pp)) = some (picksV pp, hs cells st (rpk L pp)) := by
    rw [v_tupR, lst_ref, show (hs cells st (rpk L pp))[3]? = some (.lst (pp.map pksV)) from rfl]; rfl
  have c1 := call_lmixture w hn hz P
  have c2 := call_mixture w hL hn hz P
  generalize tR L = tl at *
  generalize tI (mix L n pp) = tm at *
  generalize picksV pp = tp at *
  simp [tu, c1, c2, -v_tupR]
theorem test_mix {L : List (List Int)} {n : Nat} {pp : List (List Pk)} {b o o7 : Option Val} {cells : List Int} {st : Int} (hB : Bnd (10 ^ 24 + 138) L) (hL : L ≠ []) (hn : ∀ s ∈ L, s.length = n) (hz : n ≤ 40) (hp : ∀ ps ∈ pp, PkB L ps) (hne : pp ≠ []) (hl : pp.length ≤ 900) :
    (mWhen (mOr (mTest (mBin vNe (mCall vRepr (mCons (mVar 9) (mNil))) (mCall vRepr (mCons (mVar 8) (mNil))))) (mOr (mTest (mBin vNe (mCall M_mixture (mKw [1, 0] mNil (mCons (mCall vTuple (mCons (mVar 6) (mNil))) (mCons (mVar 4) (mNil))))) (mVar 8))) (mNot (mTru (mCall M__law_keeps (mCons (mVar 5) (mCons (mVar 8) (mNil)))))))) (mRet (mC (.bl false))) (mSkip)) [some (.ref 1), b, some (.ref 2), o, some (tR L), some (tR (hull L n)), some (.ref 3), o7, some (tI (mix L n pp)), some (tI (mix L n pp)), none, none, none, none] (hs cells st (rpk L pp))
      = some (.nx [some (.ref 1), b, some (.ref 2), o, some (tR L), some (tR (hull L n)), some (.ref 3), o7, some (tI (mix L n pp)), some (tI (mix L n pp)), none, none, none, none], hs cells st (rpk L pp)) := by
  have w := wfr_rpk L pp cells st
  have P := pkok_of hp hne hl
  have tu : vTuple [.ref 3] (hs cells st (rpk L pp)) = some (picksV pp, hs cells st (rpk L pp)) := by
    rw [v_tupR, lst_ref, show (hs cells st (rpk L pp))[3]? = some (.lst (pp.map pksV)) from rfl]; rfl
  have c2 := call_mixture w hL hn (by omega) P
  have rp := repr_tI (S := hs cells st (rpk L pp)) (mix_low (n := n) hB (by decide) (by decide) hp hne) (by rw [mix_len]; omega)
  have sf := self_tI (S := hs cells st (rpk L pp)) true (mix L n pp)
  have ck : M__law_keeps [tR (hull L n), tI (mix L n pp)] (hs cells st (rpk L pp)) = some (.bl (keeps (hull L n) (mix L n pp)), hs cells st (rpk L pp)) := call_keeps w (fun r hr => by rw [hull_row_len r hr, mix_len]) (by rw [hull_len, mix_len]) (by rw [mix_len]; omega)
  rw [mix_keeps P] at ck
  generalize tR L = tl at *
  generalize tR (hull L n) = tr at *
  generalize PyData.shown _ = z at rp
  generalize tI (mix L n pp) = tm at *
  generalize picksV pp = tp at *
  simp [tu, c2, rp, sf, ck, truD, pick, -v_tupR]
theorem test_right {L : List (List Int)} {n : Nat} {pp : List (List Pk)} {b b2 o r o6 o7 : Option Val} {S : Store} (w : Wf S) (hL : L ≠ []) (hn : ∀ s ∈ L, s.length = n) (hz : n ≤ 900) (hL2 : L.length ≤ 900) (P : PkOk L pp) :
    (mWhen (mOr (mNot (mTru (mCall M__law_picks_right (mCons (mVar 4) (mCons (mVar 8) (mNil)))))) (mTest (mBin (vIs false) (mCall M_picks_of (mCons (mVar 4) (mCons (mVar 8) (mNil)))) (mC .non)))) (mRet (mC (.bl false))) (mSkip)) [some (.ref 1), b, b2, o, some (tR L), r, o6, o7, some (tI (mix L n pp)), some (tI (mix L n pp)), none, none, none, none] S
      = some (.nx [some (.ref 1), b, b2, o, some (tR L), r, o6, o7, some (tI (mix L n pp)), some (tI (mix L n pp)), none, none, none, none], S) := by
  have c1 := call_right (S := S) w hL hn hz hL2 (mix_len L n pp)
  have c2 := call_picks (S := S) w hL hn hz hL2 (mix_len L n pp)
  rw [if_pos (mix_keeps P)] at c2
  generalize tR L = tl at *
  generalize tI (mix L n pp) = tm at *
  have ni : isNon (picksV (picksOf L n (mix L n pp))) = false := by
    unfold picksV
    rfl
  generalize picksV _ = tp at *
  simp [c1, c2, ni, truD]
end T17
namespace T17
open PySem PySem.Spec PyProof.Rows L2 Fx
theorem call_many {n : Nat} {cells : List Int} {st : Int} (hz : n ≤ 40) (hc : cells.length ≤ 60) : ∃ (c' : List Int) (s' : Int), c'.length ≤ 60 ∧ M__law_many_right [.ref 1, .int (n : Int)] (hs cells st []) = some (.bl true, hs c' s' []) := by
  obtain ⟨L, c1, s1, o1, hL, hL2, hB, hn, hc1, f1⟩ := draw_sets (n := n) (by omega) (st := st) hc
  obtain ⟨pp, c2, s2, o2, o7, hne, hpl, hp, hc2, f2⟩ := draw_picks (L := L) hL (by omega) (b := .int (n : Int)) (o := o1) (g := some (tR L)) (r := some (tR (hull L n))) (st := s1) hc1
  have P := pkok_of hp hne (by omega)
  obtain ⟨c3, s3, o10, o11, hc3, f3⟩ := loop_pts (wfr_rpk L pp) hL hn (by omega) (by omega) (mix_len L n pp) (b := some (.int (n : Int))) (b2 := some (.ref 2)) (b3 := o2) (b5 := some (tR (hull L n))) (b6 := some (.ref 3)) (b7 := o7) (b9 := some (tI (mix L n pp))) (b12 := none) (b13 := none) (List.range n) c2 s2 none none (fun x h => List.mem_range.mp h) hc2
  refine ⟨c3, s3, hc3, gen_id (S1 := hs c3 s3 []) (J := [.lst (L.map tI), .lst (pp.map pksV)]) ?_ rfl (wfr_nil _ _) refLt_bl⟩
  have e6 : (mSet (mLst (mNil)) (gN 6)) [some (.ref 1), some (.int (n : Int)), some (.ref 2), o1, some (tR L), some (tR (hull L n)), none, none, none, none, none, none, none, none] (hs c1 s1 (rset L)) = some (.nx [some (.ref 1), some (.int (n : Int)), some (.ref 2), o1, some (tR L), some (tR (hull L n)), some (.ref 3), none, none, none, none, none, none, none], hs c1 s1 (rpk L [])) := by
    simp [hs, rset, rpk]
  unfold runB m__law_many_right
  rw [s_then, start_many, bnd_ok]
  simp only []
  rw [s_then, f1, bnd_ok]
  simp only []
  rw [s_then, set_given hL hn (by omega) (by omega), bnd_ok]
  simp only []
  rw [s_then, test_rows (wfr_rset L c1 s1) hB hL hn hz (by omega), bnd_ok]
  simp only []
  rw [s_then, e6, bnd_ok]
  simp only []
  rw [s_then, f2, bnd_ok]
  simp only []
  rw [s_then, par_mix hL hn (by omega) P, bnd_ok]
  simp only []
  rw [s_then, test_mix hB hL hn hz hp hne (by omega), bnd_ok]
  simp only []
  rw [s_then, test_right (wfr_rpk L pp c2 s2) hL hn (by omega) (by omega) P, bnd_ok]
  simp only []
  rw [s_then, s_for, rng_of (n := n) (by omega) (by simp), bnd_ok, f3, bnd_ok]
  simp only []
  rw [s_ret, s_c, bnd_ok]
  rfl
end T17
namespace T17
open PySem PySem.Spec PyProof.Rows L2 Fx
/-! the fixed examples at the law's end, as plain facts -/
theorem ex_hull : hull [[0, 2, 4], [0, 1, 5]] 3 = [[0, 1, 4], [-2, 0, 2], [-5, -4, 0]] := by decide +kernel
theorem ex_mix : mix [[0, 2, 4], [0, 1, 5]] 3 [[(0, 0), (1, 0)], [(0, -1)]] = [0, 1, 4] := by decide +kernel
theorem ex_k1 : keeps (hull [[0, 2, 4], [0, 1, 5]] 3) [0, 3, 4] = false := by decide +kernel
theorem ex_k2 : keeps (hull [[0, 2, 4], [0, 1, 5]] 3) [7, 8, 11] = true := by decide +kernel
theorem ex_k3 : keeps (hull [[0, 2, 4], [0, 1, 5]] 3) [7, 8, 10] = false := by decide +kernel
theorem ex_h0 : hull [[], []] 0 = [] := by decide +kernel
theorem ex_m0 : mix [[]] 0 [[(0, 4)]] = [] := by decide +kernel
end T17
namespace T17
open PySem PySem.Spec PyProof.Rows L2 Fx
/-! ### sorted and in, for tuples of ints -/
theorem dataLe_tI {β : Type} (x : β → List Int) : PySem.W.dataLe false (fun b => tP (x b)) = fun p q => decide (x p ≤ x q) := by
  funext p q
  show (!PySem.W.dataLt (.tuple ((x q).map .int)) (.tuple ((x p).map .int))) = _
  rw [PySem.W.dataLt_tuple]
  show (!PySem.W.rowLt ((x q).map .int) ((x p).map .int)) = _
  rw [PySem.W.dataLt_ints]
  by_cases h : x q < x p
  · have h' : ¬ x p ≤ x q := fun r => List.not_lt.mpr r h
    simp [h, h']
  · have h' : x p ≤ x q := List.not_lt.mp h
    simp [h, h']
theorem srt_congr {r s : Nat → Nat → Bool} {l : List Nat} (h : ∀ a ∈ l, ∀ b ∈ l, r a b = s a b) : l.mergeSort r = l.mergeSort s := by
  have := List.map_mergeSort (f := fun i : Nat => i) (r := r) (s := s) (l := l) h
  simpa using this
theorem srtBy_tI (A : List (List Int)) : srtBy (A.map tP) (A.map tI) = (srtL A).map tI := by
  have e1 : srtIx (A.map tP) = (List.range A.length).mergeSort fun i j => decide (A.getD i [] ≤ A.getD j []) := by
    unfold srtIx
    rw [List.length_map]
    have e := dataLe_tI fun i : Nat => A.getD i []
    rw [← e]
    refine srt_congr fun a ha b hb => ?_
    rw [List.mem_range] at ha hb
    have g : ∀ i, i < A.length → (A.map tP).getD i .none = tP (A.getD i []) := fun i hi => by
      rw [List.getD_eq_getElem?_getD, List.getElem?_map, List.getElem?_eq_getElem hi, List.getD_eq_getElem?_getD, List.getElem?_eq_getElem hi]
      rfl
    rw [PySem.W.dataLe_eq, PySem.W.dataLe_eq]
    dsimp only
    rw [g a ha, g b hb]
  unfold srtBy srtL
  rw [e1, List.map_map]
  have hm : ∀ i ∈ (List.range A.length).mergeSort (fun i j => decide (A.getD i [] ≤ A.getD j [])), i < A.length := fun i hi => by
    have := (List.mergeSort_perm (List.range A.length) fun i j => decide (A.getD i [] ≤ A.getD j [])).mem_iff.mp hi
    exact List.mem_range.mp this
  generalize (List.range A.length).mergeSort (fun i j => decide (A.getD i [] ≤ A.getD j [])) = P at hm
  induction P with
  | nil => rfl
  | cons i P ih =>
    have hi := hm i (by simp)
    rw [List.filterMap_cons, List.getElem?_map, List.getElem?_eq_getElem hi, ih fun j hj => hm j (by simp [hj])]
    show tI A[i] :: _ = tI (A.getD i []) :: _
    rw [List.getD_eq_getElem?_getD, List.getElem?_eq_getElem hi]
    rfl
theorem srtL_len (A : List (List Int)) : (srtL A).length = A.length := (srtL_perm A).length_eq
theorem call_sorted {A : List (List Int)} {n : Nat} {d : Val} {S : Store} (hd : lstOf S d = some (A.map tI)) (hA : ∀ x ∈ A, x.length = n) (hn : 0 < n) : vSorted false [d] S = some (.fro ((srtL A).map tI), S) := by
  unfold vSorted
  dsimp only
  rw [hd, Option.bind_some, toPyL_map toPy_tI A, Option.bind_some, if_pos, srtBy_tI, mk_f]
  refine ⟨fun d hd d' hd' => ?_, .inl fun d hd => ?_, fun d hd => ?_⟩
  · obtain ⟨a, _, rfl⟩ := List.mem_map.mp hd
    obtain ⟨b, _, rfl⟩ := List.mem_map.mp hd'
    unfold tP
    rw [PySem.W.alike]
    exact PySem.W.alike_ints a b
  · obtain ⟨a, ha, rfl⟩ := List.mem_map.mp hd
    have := hA a ha
    match a, this with
    | [], h => simp at h; omega
    | x :: r, _ => exact ⟨_, _, rfl⟩
  · obtain ⟨a, _, rfl⟩ := List.mem_map.mp hd
    have := depth_tP a
    omega
theorem eqvAll_ints : ∀ a b : List Int, PyData.eqvAll (a.map PyData.int) (b.map PyData.int) = decide (a = b)
  | [], [] => by simp [PyData.eqvAll]
  | [], _ :: _ => by simp [PyData.eqvAll]
  | _ :: _, [] => by simp [PyData.eqvAll]
  | x :: a, y :: b => by
    rw [List.map_cons, List.map_cons, PyData.eqvAll, eqvAll_ints a b]
    by_cases h : x = y <;> simp [PyData.eqv, h]
theorem eqv_tP (a b : List Int) : PyData.eqv (tP a) (tP b) = decide (a = b) := by
  unfold tP
  rw [PyData.eqv]
  exact eqvAll_ints a b
theorem shaped_lR (L : List (List Int)) : SeqAt.shaped (.list (L.map tP)) = true := by
  have := depth_map depth_tP L
  unfold SeqAt.shaped
  rw [PyData.canLay0, lay_map lay_tP L, decide_eq_true (show PyData.depth _ ≤ 64 by rw [PyData.depth]; omega)]
  rfl
theorem notin_tI {F : List (List Int)} {x : List Int} {d : Val} {S : Store} (hd : lstOf S d = some (F.map tI)) (hr : ∀ l, d ≠ .tup l) : vIn2 true (tI x) d S = some (.bl (!decide (x ∈ F)), S) := by
  unfold vIn2
  have e1 : vIn true (tI x) d S = none := by
    unfold vIn tI
    cases d with
    | tup l => exact absurd rfl (hr l)
    | str z => rfl
    | _ =>
      dsimp only
      rw [hd]
      rfl
  rw [e1, Option.none_or]
  unfold vInD
  have e2 : pyOf S (tI x) = some (tP x) := toPy_tI x
  rw [e2, Option.bind_some, hd, Option.bind_some, toPyL_map toPy_tI F, Option.bind_some, if_pos (by
    rw [show SeqAt.shaped (tP x) = true from shaped_tI x, shaped_lR]; rfl)]
  have e3 : ((F.map tP).any fun z => PyData.eqv z (tP x)) = decide (x ∈ F) := by
    rw [Bool.eq_iff_iff, List.any_eq_true, decide_eq_true_eq]
    constructor
    · rintro ⟨z, hz, h⟩
      obtain ⟨a, ha, rfl⟩ := List.mem_map.mp hz
      rw [eqv_tP, decide_eq_true_eq] at h
      rw [← h]
      exact ha
    · intro h
      exact ⟨tP x, List.mem_map.mpr ⟨x, h, rfl⟩, by rw [eqv_tP]; simp⟩
  rw [e3]
  rfl
theorem self_lR {S : Store} (k : Bool) (L : List (List Int)) : vEqN k (.fro (L.map tI)) (.fro (L.map tI)) S = some (.bl (if k then false else true), S) := by
  show (pyOf S (.fro (L.map tI))).bind _ = _
  have e1 : pyOf S (.fro (L.map tI)) = some (.list (L.map tP)) := by
    unfold pyOf topV
    show toPy (.fro (L.map tI)) = _
    unfold toPy
    rw [toPyL_map toPy_tI L]
    rfl
  have hs := shaped_lR L
  rw [e1]
  show (if (SeqAt.shaped _ && SeqAt.shaped _) = true then _ else _) = _
  rw [hs, if_pos (by rfl), SeqAt.eqv_refl _ (SeqAt.canLay_of_shaped hs)]
  cases k <;> rfl
end T17
namespace T17
open PySem PySem.Spec PyProof.Rows L2 Fx
/-! ### _law_all -/
theorem rng2_of {ms : MA} {env : VEnv} {S S' : Store} {i j : Int} (hi : -1000000 ≤ i ∧ i ≤ 1000000) (hj : -1000000 ≤ j ∧ j ≤ 1000000) (h : ms env S = some ([.int i, .int j], S')) : mRng2 ms env S = some ((rngI i j).map Val.int, S') := by
  unfold mRng2
  rw [h, bnd_ok]
  dsimp only
  have p := pw62
  have c : -(2 ^ 62 : Int) ≤ i ∧ i < 2 ^ 62 ∧ -(2 ^ 62 : Int) ≤ j ∧ j < 2 ^ 62 := by
    rw [p]
    omega
  rw [if_pos c]
  unfold rangeV rngI
  rw [List.map_map]
  rfl
theorem ent_ix {R : List (List Int)} {n a t : Nat} {S : Store} (hR : R.length = n) (hr : ∀ r ∈ R, r.length = n) (ha : a < n) (ht : t < n) : ∃ row, vIx (tR R) (.int (a : Int)) S = some (row, S) ∧ vIx row (.int (t : Int)) S = some (.int (ent R a t), S) := by
  refine ⟨_, ix_tR (by omega), ?_⟩
  have : (R.getD a []).length = n := by
    rw [List.getD_eq_getElem?_getD, List.getElem?_eq_getElem (by omega)]
    exact hr _ (List.getElem_mem _)
  exact ix_tI (by omega)
/-- what one setting is made longer by -/
theorem lc_ext {R : List (List Int)} {p : Nat} {s : List Int} {o1 o2 o3 o5 r : Option Val} {S : Store} (hs : s.length ≤ 100) : lcL (gN 5) mYes (mBin vAdd (mVar 4) (mTup (mCons (mVar 5) (mNil)))) [r, o1, o2, o3, some (tI s), o5] ((rngI (ent R 0 p) (1 - ent R p 0)).map Val.int) S = some ((ext1 R p s).map tI, S) := by
  unfold ext1
  refine lc_map2 Val.int tI (fun v => s ++ [v]) _ fun v _ => ?_
  refine ⟨_, s_gn .., ?_⟩
  have e1 : 1 ≤ sizeLine := by rw [sizeLine_eq]; omega
  have e2 : (s.map Val.int).length + [Val.int v].length ≤ sizeLine := by rw [List.length_map, sizeLine_eq, List.length_singleton]; omega
  have e : tI (s ++ [v]) = .tup (s.map Val.int ++ [.int v]) := by unfold tI; rw [List.map_append]; rfl
  have a := v_addT S (s.map Val.int) [.int v]
  rw [if_pos e2, ← e] at a
  have a' : vAdd (tI s) (.tup [.int v]) S = some (tI (s ++ [v]), S) := a
  generalize tI (s ++ [v]) = u at *
  generalize tI s = u2 at *
  simp [e1, a']
/-- all found so far made longer -/
theorem loop_ext {R : List (List Int)} {n p : Nat} {S : Store} {o1 : Option Val} (hR : R.length = n) (hr : ∀ r ∈ R, r.length = n) (hp : p < n) (h0 : 0 < n) (b1 : -1000 ≤ ent R 0 p ∧ ent R 0 p ≤ 1000) (b2 : -1000 ≤ ent R p 0 ∧ ent R p 0 ≤ 1000) : ∀ (F A : List (List Int)) (o4 o5 : Option Val), (∀ s ∈ F, s.length ≤ 100) → A.length + (extF R p F).length ≤ 1000 → ∃ o4' : Option Val,
    forL (gN 4) (mSet (mBin vAdd (mVar 3) (mLc false [5] (mRng2 (mCons (mBin vIx (mBin vIx (mVar 0) (mC (.int 0))) (mVar 2)) (mCons (mBin vSub (mC (.int 1)) (mBin vIx (mBin vIx (mVar 0) (mVar 2)) (mC (.int 0)))) (mNil)))) (gN 5) (mYes) (mBin vAdd (mVar 4) (mTup (mCons (mVar 5) (mNil)))))) (gN 3))
      (F.map tI) [some (tR R), o1, some (.int (p : Int)), some (.fro (A.map tI)), o4, o5] S = some (.nx [some (tR R), o1, some (.int (p : Int)), some (.fro ((A ++ extF R p F).map tI)), o4', o5], S)
  | [], A, o4, o5, _, _ => ⟨o4, by
    rw [List.map_nil, for_nil]
    show _ = some (Out.nx [some (tR R), o1, some (.int (p : Int)), some (.fro ((A ++ []).map tI)), o4, o5], S)
    rw [List.append_nil]⟩
  | s :: F, A, o4, o5, hF, hz => by
    have ef : extF R p (s :: F) = ext1 R p s ++ extF R p F := by unfold extF; rw [List.flatMap_cons]
    rw [ef, List.length_append] at hz
    obtain ⟨o4', ih⟩ := loop_ext hR hr hp h0 b1 b2 (o1 := o1) (S := S) F (A ++ ext1 R p s) (some (tI s)) o5 (fun t ht => hF t (by simp [ht])) (by rw [List.length_append]; omega)
    refine ⟨o4', ?_⟩
    rw [List.append_assoc, ← ef] at ih
    rw [List.map_cons, for_cons, s_gn, bnd_ok]
    simp only [List.set_cons_succ, List.set_cons_zero]
    obtain ⟨r1, i1, i2⟩ := ent_ix (S := S) hR hr h0 hp
    obtain ⟨r2, i3, i4⟩ := ent_ix (S := S) hR hr hp h0
    have i1 : vIx (tR R) (.int 0) S = some (r1, S) := i1
    have i4 : vIx r2 (.int 0) S = some (.int (ent R p 0), S) := i4
    have rg : ∀ o5, mRng2 (mCons (mBin vIx (mBin vIx (mVar 0) (mC (.int 0))) (mVar 2)) (mCons (mBin vSub (mC (.int 1)) (mBin vIx (mBin vIx (mVar 0) (mVar 2)) (mC (.int 0)))) (mNil))) [some (tR R), o1, some (.int (p : Int)), some (.fro (A.map tI)), some (tI s), o5] S = some ((rngI (ent R 0 p) (1 - ent R p 0)).map Val.int, S) := fun o5 => by
      refine rng2_of (by omega) (by omega) ?_
      generalize tR R = u at *
      generalize (p : Int) = q at *
      simp [i1, i2, i3, i4]
    have lc : (mLc false [5] (mRng2 (mCons (mBin vIx (mBin vIx (mVar 0) (mC (.int 0))) (mVar 2)) (mCons (mBin vSub (mC (.int 1)) (mBin vIx (mBin vIx (mVar 0) (mVar 2)) (mC (.int 0)))) (mNil)))) (gN 5) (mYes) (mBin vAdd (mVar 4) (mTup (mCons (mVar 5) (mNil))))) [some (tR R), o1, some (.int (p : Int)), some (.fro (A.map tI)), some (tI s), o5] S = some (.fro ((ext1 R p s).map tI), S) := by
      rw [s_lc, rg, bnd_ok]
      simp only [wipeE, List.set_cons_succ, List.set_cons_zero]
      rw [lc_ext (hF s (by simp)), bnd_ok, if_pos (by rw [List.length_map, sizeLine_eq]; omega)]
      simp only [mk_f]
    have ad : vAdd (.fro (A.map tI)) (.fro ((ext1 R p s).map tI)) S = some (.fro ((A ++ ext1 R p s).map tI), S) := by
      rw [v_addF, if_pos (by rw [List.length_map, List.length_map, sizeLine_eq]; omega), List.map_append]
    rw [s_set, s_bin, s_var]
    simp only [List.getElem?_cons_succ, List.getElem?_cons_zero]
    rw [bnd_ok, lc, bnd_ok, ad, bnd_ok, s_gn, bnd_ok, bnd_ok]
    simp only [List.set_cons_succ, List.set_cons_zero]
    exact ih
/-- one point after the other -/
theorem loop_all {R : List (List Int)} {n : Nat} {S : Store} (hR : R.length = n) (hr : ∀ r ∈ R, r.length = n) (h0 : 0 < n) (hn : n ≤ 100) (b1 : ∀ p, p < n → -1000 ≤ ent R 0 p ∧ ent R 0 p ≤ 1000) (b2 : ∀ p, p < n → -1000 ≤ ent R p 0 ∧ ent R p 0 ≤ 1000) :
    ∀ (ps : List Nat) (F : List (List Int)) (o2 o3 o4 o5 : Option Val), (∀ p ∈ ps, p + 1 < n) → (∀ s ∈ F, s.length + ps.length ≤ 100) → (∀ p ∈ ps, 1 - ent R (p + 1) 0 - ent R 0 (p + 1) ≤ 5) → F.length * 5 ^ ps.length ≤ 1000 → ∃ o2' o3' o4' : Option Val,
    forL (gN 2) (mThen (mSet (mFro (mNil)) (gN 3))
 (mThen (mFor (mItems (mVar 1)) (gN 4) (mSet (mBin vAdd (mVar 3) (mLc false [5] (mRng2 (mCons (mBin vIx (mBin vIx (mVar 0) (mC (.int 0))) (mVar 2)) (mCons (mBin vSub (mC (.int 1)) (mBin vIx (mBin vIx (mVar 0) (mVar 2)) (mC (.int 0)))) (mNil)))) (gN 5) (mYes) (mBin vAdd (mVar 4) (mTup (mCons (mVar 5) (mNil)))))) (gN 3)))
 (mSet (mVar 3) (gN 1)))) (ps.map fun i => Val.int ((i + 1 : Nat) : Int)) [some (tR R), some (.fro (F.map tI)), o2, o3, o4, o5] S = some (.nx [some (tR R), some (.fro ((ps.foldl (fun F i => extF R (i + 1) F) F).map tI)), o2', o3', o4', o5], S)
  | [], F, o2, o3, o4, o5, _, _, _, _ => ⟨o2, o3, o4, rfl⟩
  | p :: ps, F, o2, o3, o4, o5, hp, hF, hd, hz => by
    have hp1 := hp p (by simp)
    have hle : (extF R (p + 1) F).length ≤ 5 * F.length := by
      unfold extF
      refine len_flat F fun s _ => ?_
      unfold ext1 rngI
      rw [List.length_map, List.length_map, List.length_range]
      have := hd p (by simp)
      omega
    have hz2 : F.length * (5 ^ ps.length * 5) ≤ 1000 := by
      rw [List.length_cons, Nat.pow_succ] at hz
      exact hz
    have hz3 : (extF R (p + 1) F).length * 5 ^ ps.length ≤ 1000 := by
      have := Nat.mul_le_mul_right (5 ^ ps.length) hle
      have e : 5 * F.length * 5 ^ ps.length = F.length * (5 ^ ps.length * 5) := by
        rw [Nat.mul_comm 5, Nat.mul_assoc, Nat.mul_comm 5]
      omega
    have hpos : 1 ≤ 5 ^ ps.length := Nat.one_le_pow _ _ (by omega)
    have hz4 : (extF R (p + 1) F).length ≤ 1000 := Nat.le_trans (Nat.le_mul_of_pos_right _ hpos) hz3
    have hF2 : ∀ s ∈ extF R (p + 1) F, s.length + ps.length ≤ 100 := fun s hs => by
      unfold extF at hs
      obtain ⟨t, ht, hs⟩ := List.mem_flatMap.mp hs
      unfold ext1 at hs
      obtain ⟨v, _, rfl⟩ := List.mem_map.mp hs
      have := hF t ht
      rw [List.length_cons] at this
      rw [List.length_append, List.length_singleton]
      omega
    obtain ⟨q4, h1⟩ := loop_ext (S := S) (o1 := some (.fro (F.map tI))) hR hr hp1 h0 (b1 _ hp1) (b2 _ hp1) F [] o4 o5 (fun s hs => by have := hF s hs; omega) (by rw [List.length_nil, Nat.zero_add]; exact hz4)
    obtain ⟨q2, q3, q4', h2⟩ := loop_all hR hr h0 hn b1 b2 (S := S) ps (extF R (p + 1) F) (some (.int ((p + 1 : Nat) : Int))) (some (.fro ((extF R (p + 1) F).map tI))) q4 o5 (fun q hq => hp q (by simp [hq])) hF2 (fun q hq => hd q (by simp [hq])) hz3
    refine ⟨q2, q3, q4', ?_⟩
    rw [List.nil_append, List.map_nil] at h1
    rw [List.map_cons, for_cons, s_gn, bnd_ok]
    simp only [List.set_cons_succ, List.set_cons_zero]
    have e0 : (mSet (mFro (mNil)) (gN 3)) [some (tR R), some (.fro (F.map tI)), some (.int ((p + 1 : Nat) : Int)), o3, o4, o5] S = some (.nx [some (tR R), some (.fro (F.map tI)), some (.int ((p + 1 : Nat) : Int)), some (.fro []), o4, o5], S) := by
      generalize ((p + 1 : Nat) : Int) = q
      simp
    rw [s_then, e0, bnd_ok]
    simp only []
    rw [s_then, s_for, s_items, s_var]
    simp only [List.getElem?_cons_succ, List.getElem?_cons_zero]
    rw [bnd_ok]
    simp only [fro_f, Option.map_some]
    rw [bnd_ok, h1, bnd_ok]
    simp only []
    rw [s_set, s_var]
    simp only [List.getElem?_cons_succ, List.getElem?_cons_zero]
    rw [bnd_ok, s_gn, bnd_ok, bnd_ok]
    simp only [List.set_cons_succ, List.set_cons_zero]
    rw [List.foldl_cons]
    exact h2
theorem call_all {R : List (List Int)} {n : Nat} {S : Store} (w : Wf S) (hR : R.length = n) (hr : ∀ r ∈ R, r.length = n) (h0 : 0 < n) (hn : n ≤ 3) (b1 : ∀ p, p < n → -2 ≤ ent R 0 p ∧ ent R 0 p ≤ 2) (b2 : ∀ p, p < n → -2 ≤ ent R p 0 ∧ ent R p 0 ≤ 2) :
    M__law_all [tR R] S = some (.fro ((srtL ((allF R (n - 1)).filter (keeps R))).map tI), S) := by
  obtain ⟨o2, o3, o4, h⟩ := loop_all (S := S) hR hr h0 (by omega) (fun p hp => by have := b1 p hp; omega) (fun p hp => by have := b2 p hp; omega) (List.range (n - 1)) [[0]] none none none none (fun p hp => by rw [List.mem_range] at hp; omega) (fun s hs => by
    rw [List.mem_singleton] at hs
    rw [hs, List.length_range]
    simp
    omega) (fun p hp => by
    rw [List.mem_range] at hp
    have h1 := b1 (p + 1) (by omega)
    have h2 := b2 (p + 1) (by omega)
    omega) (by
    rw [List.length_range]
    have : n - 1 = 0 ∨ n - 1 = 1 ∨ n - 1 = 2 := by omega
    rcases this with e | e | e <;> rw [e] <;> decide)
  have hA : (List.range (n - 1)).foldl (fun F i => extF R (i + 1) F) [[0]] = allF R (n - 1) := rfl
  rw [hA] at h
  have la : ∀ x ∈ allF R (n - 1), x.length = n := fun x hx => by
    have := ((mem_allF _ _).mp hx).1
    omega
  have ls : (allF R (n - 1)).length ≤ 1000 := by
    have h1 := len_allF (R := R) (k := 5) (n - 1) fun p hp => by
      have h1 := b1 (p + 1) (by omega)
      have h2 := b2 (p + 1) (by omega)
      omega
    have : n - 1 = 0 ∨ n - 1 = 1 ∨ n - 1 = 2 := by omega
    rcases this with e | e | e <;> rw [e] at h1 ⊢ <;> omega
  generalize allF R (n - 1) = A at *
  refine gen_id0 ?_ rfl w (by simp; exact refLtL_map refLt_tI _)
  unfold runB m__law_all
  rw [show startE N__law_all [tR R] = [some (tR R), none, none, none, none, none] from rfl]
  have e1 : (mSet (mFro (mCons (mTup (mCons (mC (.int 0)) (mNil))) (mNil))) (gN 1)) [some (tR R), none, none, none, none, none] S = some (.nx [some (tR R), some (.fro ([[0]].map tI)), none, none, none, none], S) := by
    have e1 : 1 ≤ sizeLine := by rw [sizeLine_eq]; omega
    simp [e1]
    rfl
  have rg : mRng2 (mCons (mC (.int 1)) (mCons (mCall vLen (mCons (mVar 0) (mNil))) (mNil))) [some (tR R), some (.fro ([[0]].map tI)), none, none, none, none] S = some ((List.range (n - 1)).map fun i => Val.int ((i + 1 : Nat) : Int), S) := by
    have l := len_tR (L := R) (S := S)
    rw [hR] at l
    rw [rng2_of (i := 1) (j := (n : Int)) (S' := S) (by omega) (by omega) (by
      generalize tR R = u at *
      simp [l])]
    unfold rngI
    rw [List.map_map]
    have e : ((n : Int) - 1).toNat = n - 1 := by omega
    rw [e]
    congr 2
    apply List.map_congr_left
    intro i _
    show Val.int (1 + (i : Int)) = _
    congr 1
    omega
  rw [s_then, e1, bnd_ok]
  simp only []
  rw [s_then, s_for, rg, bnd_ok, h, bnd_ok]
  simp only []
  have lc : lcL (gN 4) (mTru (mCall M__law_keeps (mCons (mVar 0) (mCons (mVar 4) (mNil))))) (mVar 4) [some (tR R), some (.fro (A.map tI)), o2, o3, none, none] (A.map tI) S = some ((A.filter (keeps R)).map tI, S) :=
    lc_filter tI tI (keeps R) A fun x hx => by
      refine ⟨_, s_gn .., ?_, ?_⟩
      · have ck := call_keeps (S := S) (R := R) (s := x) w (fun r h => by rw [hr r h, la x hx]) (by rw [hR, la x hx]) (by rw [la x hx]; omega)
        generalize tR R = u at *
        generalize tI x = v at *
        simp [ck, truD]
      · simp
  rw [s_ret, s_call, s_cons, s_lc, s_items, s_var]
  simp only [List.getElem?_cons_succ, List.getElem?_cons_zero]
  rw [bnd_ok]
  simp only [fro_f, Option.map_some, wipeE, List.set_cons_succ, List.set_cons_zero]
  have hfl := List.length_filter_le (keeps R) A
  rw [bnd_ok, lc, bnd_ok, if_pos (by rw [List.length_map, sizeLine_eq]; omega)]
  simp only [mk_f]
  rw [bnd_ok, s_nil, bnd_ok, bnd_ok, call_sorted (n := n) rfl (fun x hx => la x (List.mem_filter.mp hx).1) h0, bnd_ok]
  rfl
end T17
namespace T17
open PySem PySem.Spec PyProof.Rows L2 Fx
/-! ### _law_round -/
noncomputable def mPUSH : MS := (mWhen (mAnd (mTest (mBin (vIn2 true) (mVar 1) (mVar 2))) (mTest (mBin (vIn2 true) (mVar 1) (mVar 3)))) (mDo (mMeth "list" vAppend (mVar 3) (mCons (mVar 1) (mNil)))) (mSkip))
noncomputable def mSHIFT : MS := (mThen (mSet (mLc false [10] (mRng1 (mCons (mCall vLen (mCons (mVar 6) (mNil))) (mNil))) (gN 10) (mYes) (mTup (mCons (mBin vIx (mVar 6) (mVar 10)) (mCons (mBin vAdd (mBin vIx (mVar 7) (mVar 10)) (mVar 8)) (mNil))))) (gN 9))
 (mFor (mItems (mFro (mCons (mCall M__law_level (mCons (mLc false [11] (mItems (mVar 9)) (gN 11) (mYes) (mCall vMax (mCons (mVar 11) (mNil)))) (mNil))) (mCons (mCall M__law_level (mCons (mLc false [11] (mItems (mVar 9)) (gN 11) (mYes) (mCall vMin (mCons (mVar 11) (mNil)))) (mNil))) (mNil))))) (gN 1) mPUSH))
noncomputable def mOTHER : MS := (mFor (mRng2 (mCons (mBin vSub (mC (.int 0)) (mBin vMul (mC (.int 2)) (mVar 4))) (mCons (mBin vAdd (mBin vMul (mC (.int 2)) (mVar 4)) (mC (.int 1))) (mNil)))) (gN 8) mSHIFT)
noncomputable def mTURN : MS := (mThen (mWhen (mTest (mBin vEq (mVar 3) (mFro (mNil)))) (mBk) (mSkip))
 (mThen (mSet (mMeth "list" vPop (mVar 3) mNil) (gN 6))
 (mWhen (mTest (mBin (vIn2 true) (mVar 6) (mVar 2))) (mThen (mDo (mMeth "list" vAppend (mVar 2) (mCons (mVar 6) (mNil))))
 (mFor (mItems (mCall (vList false) (mCons (mVar 2) (mNil)))) (gN 7) mOTHER)) (mSkip))))
/-- the store while going round -/
def rrd (F G : List (List Int)) : Store := [.lst (F.map tI), .lst (G.map tI)]
theorem wfr_rrd (F G : List (List Int)) : WfR (rrd F G) := fun cells st i c h => by
  match i with
  | 0 => simp [hs] at h; subst h; simp [refLtC]
  | 1 => simp [hs] at h; subst h; simp [refLtC, hs]
  | 2 =>
    simp [hs, rrd] at h
    subst h
    exact refLtL_map refLt_tI F
  | 3 =>
    simp [hs, rrd] at h
    subst h
    exact refLtL_map refLt_tI G
  | i + 4 => simp [hs, rrd] at h
section
variable {cells : List Int} {st d : Int} {o0 o5 o6 o10 o11 : Option Val}
theorem at_F {F G : List (List Int)} : (hs cells st (rrd F G))[2]? = some (.lst (F.map tI)) := rfl
theorem at_G {F G : List (List Int)} : (hs cells st (rrd F G))[3]? = some (.lst (G.map tI)) := rfl
theorem in_F {F G : List (List Int)} {x : List Int} : vIn2 true (tI x) (.ref 2) (hs cells st (rrd F G)) = some (.bl (!decide (x ∈ F)), hs cells st (rrd F G)) := notin_tI (by rw [lst_ref, at_F]) (fun l h => nomatch h)
theorem in_G {F G : List (List Int)} {x : List Int} : vIn2 true (tI x) (.ref 3) (hs cells st (rrd F G)) = some (.bl (!decide (x ∈ G)), hs cells st (rrd F G)) := notin_tI (by rw [lst_ref, at_G]) (fun l h => nomatch h)
theorem app_F {F G : List (List Int)} {x : List Int} (h : F.length ≤ 4000000) : vAppend (.ref 2) [tI x] (hs cells st (rrd F G)) = some (.non, hs cells st (rrd (F ++ [x]) G)) := by
  have lt : F.length < sizeLine := by rw [sizeLine_eq]; omega
  rw [Fx.v_app]
  simp [hs, rrd, lt]
theorem app_G {F G : List (List Int)} {x : List Int} (h : G.length ≤ 4000000) : vAppend (.ref 3) [tI x] (hs cells st (rrd F G)) = some (.non, hs cells st (rrd F (G ++ [x]))) := by
  have lt : G.length < sizeLine := by rw [sizeLine_eq]; omega
  rw [Fx.v_app]
  simp [hs, rrd, lt]
theorem run_push {F G : List (List Int)} {c : List Int} {o7 o8 o9 : Option Val} (h : G.length ≤ 4000000) : mPUSH [o0, some (tI c), some (.ref 2), some (.ref 3), some (.int d), o5, o6, o7, o8, o9, o10, o11] (hs cells st (rrd F G))
    = some (.nx [o0, some (tI c), some (.ref 2), some (.ref 3), some (.int d), o5, o6, o7, o8, o9, o10, o11], hs cells st (rrd F (push F G c))) := by
  have a := in_F (cells := cells) (st := st) (F := F) (G := G) (x := c)
  have b := in_G (cells := cells) (st := st) (F := F) (G := G) (x := c)
  have e := app_G (cells := cells) (st := st) (F := F) (x := c) h
  have g := at_G (cells := cells) (st := st) (F := F) (G := G)
  unfold mPUSH push
  by_cases h1 : c ∈ F
  · rw [if_pos (.inl h1)]
    rw [decide_eq_true h1] at a
    generalize tI c = u at *
    simp [a]
  · by_cases h2 : c ∈ G
    · rw [if_pos (.inr h2)]
      rw [decide_eq_false h1] at a
      rw [decide_eq_true h2] at b
      generalize tI c = u at *
      simp [a, b]
    · rw [if_neg (by rintro (q | q); exact h1 q; exact h2 q)]
      rw [decide_eq_false h1] at a
      rw [decide_eq_false h2] at b
      generalize tI c = u at *
      simp [a, b, e, g, -Fx.v_app]
theorem loop_push {F : List (List Int)} {o7 o8 o9 : Option Val} : ∀ (cs G : List (List Int)) (o1 : Option Val), G.length + cs.length ≤ 4000000 → ∃ o1' : Option Val, forL (gN 1) mPUSH (cs.map tI) [o0, o1, some (.ref 2), some (.ref 3), some (.int d), o5, o6, o7, o8, o9, o10, o11] (hs cells st (rrd F G))
    = some (.nx [o0, o1', some (.ref 2), some (.ref 3), some (.int d), o5, o6, o7, o8, o9, o10, o11], hs cells st (rrd F (pushAll F cs G)))
  | [], G, o1, _ => ⟨o1, rfl⟩
  | c :: cs, G, o1, h => by
    rw [List.length_cons] at h
    have hl : (push F G c).length ≤ G.length + 1 := by
      unfold push
      split
      · omega
      · rw [List.length_append, List.length_singleton]; omega
    obtain ⟨o1', ih⟩ := loop_push (F := F) (o7 := o7) (o8 := o8) (o9 := o9) cs (push F G c) (some (tI c)) (by omega)
    refine ⟨o1', ?_⟩
    rw [List.map_cons, for_cons, s_gn, bnd_ok]
    simp only [List.set_cons_succ, List.set_cons_zero]
    rw [run_push (by omega), bnd_ok]
    exact ih
theorem max_pair {x y : Int} {S : Store} : vMax [.tup [.int x, .int y]] S = some (.int (max x y), S) := rfl
theorem min_pair {x y : Int} {S : Store} : vMin [.tup [.int x, .int y]] S = some (.int (min x y), S) := rfl
def prP (a b : List Int) (t : Int) (p : Nat) : Val := .tup [.int (a.getD p 0), .int (b.getD p 0 + t)]
theorem run_shift {F G : List (List Int)} {n : Nat} {a b : List Int} {t : Int} {o1 o9 : Option Val} (ha : a.length = n) (hb : b.length = n) (hn : 0 < n) (hn2 : n ≤ 900) (h : G.length + 2 ≤ 4000000) : ∃ o1' o9' : Option Val, mSHIFT [o0, o1, some (.ref 2), some (.ref 3), some (.int d), o5, some (tI a), some (tI b), some (.int t), o9, o10, o11] (hs cells st (rrd F G))
    = some (.nx [o0, o1', some (.ref 2), some (.ref 3), some (.int d), o5, some (tI a), some (tI b), some (.int t), o9', o10, o11], hs cells st (rrd F (pushAll F [cmax a b t, cmin a b t] G))) := by
  obtain ⟨o1', hp⟩ := loop_push (F := F) (cells := cells) (st := st) (d := d) (o0 := o0) (o5 := o5) (o6 := some (tI a)) (o7 := some (tI b)) (o8 := some (.int t)) (o9 := some (.fro ((List.range n).map (prP a b t)))) (o10 := o10) (o11 := o11) [cmax a b t, cmin a b t] G o1 h
  refine ⟨o1', some (.fro ((List.range n).map (prP a b t))), ?_⟩
  have w := wfr_rrd F G cells st
  generalize hs cells st (rrd F (pushAll F [cmax a b t, cmin a b t] G)) = S' at *
  generalize hs cells st (rrd F G) = S at *
  have la := len_tI (l := a) (S := S)
  have hI : ∀ o10, mRng1 (mCons (mCall vLen (mCons (mVar 6) (mNil))) (mNil)) [o0, o1, some (.ref 2), some (.ref 3), some (.int d), o5, some (tI a), some (tI b), some (.int t), o9, o10, o11] S = some ((List.range n).map fun i => Val.int (i : Nat), S) := fun o10 => rng_of (by omega) (by
    rw [ha] at la
    generalize tI a = u at *
    simp [la])
  have e2 : 2 ≤ sizeLine := by rw [sizeLine_eq]; omega
  have l10 : lcL (gN 10) mYes (mTup (mCons (mBin vIx (mVar 6) (mVar 10)) (mCons (mBin vAdd (mBin vIx (mVar 7) (mVar 10)) (mVar 8)) (mNil)))) [o0, o1, some (.ref 2), some (.ref 3), some (.int d), o5, some (tI a), some (tI b), some (.int t), o9, none, o11] ((List.range n).map fun i => Val.int (i : Nat)) S = some ((List.range n).map (prP a b t), S) :=
    lc_map (fun i : Nat => Val.int (i : Nat)) (prP a b t) _ fun p hp => by
      rw [List.mem_range] at hp
      refine ⟨_, s_gn .., ?_⟩
      have i1 := ix_tI (l := a) (k := p) (S := S) (by omega)
      have i2 := ix_tI (l := b) (k := p) (S := S) (by omega)
      unfold prP
      generalize tI a = u at *
      generalize tI b = v at *
      generalize (p : Int) = q at *
      simp [i1, i2, e2]
  have lz : ((List.range n).map (prP a b t)).length ≤ sizeLine := by rw [List.length_map, List.length_range, sizeLine_eq]; omega
  have st9 : (mSet (mLc false [10] (mRng1 (mCons (mCall vLen (mCons (mVar 6) (mNil))) (mNil))) (gN 10) (mYes) (mTup (mCons (mBin vIx (mVar 6) (mVar 10)) (mCons (mBin vAdd (mBin vIx (mVar 7) (mVar 10)) (mVar 8)) (mNil))))) (gN 9)) [o0, o1, some (.ref 2), some (.ref 3), some (.int d), o5, some (tI a), some (tI b), some (.int t), o9, o10, o11] S
      = some (.nx [o0, o1, some (.ref 2), some (.ref 3), some (.int d), o5, some (tI a), some (tI b), some (.int t), some (.fro ((List.range n).map (prP a b t))), o10, o11], S) := by
    rw [s_set, s_lc, hI, bnd_ok]
    simp only [wipeE, List.set_cons_succ, List.set_cons_zero]
    rw [l10, bnd_ok, if_pos lz]
    simp only [mk_f]
    rw [bnd_ok, s_gn, bnd_ok]
    simp only [List.set_cons_succ, List.set_cons_zero]
  have lmx : lcL (gN 11) mYes (mCall vMax (mCons (mVar 11) (mNil))) [o0, o1, some (.ref 2), some (.ref 3), some (.int d), o5, some (tI a), some (tI b), some (.int t), some (.fro ((List.range n).map (prP a b t))), o10, none] ((List.range n).map (prP a b t)) S = some ((rmax a b t).map Val.int, S) := by
    have := lc_map (g := gN 11) (m := mCall vMax (mCons (mVar 11) (mNil))) (env := [o0, o1, some (.ref 2), some (.ref 3), some (.int d), o5, some (tI a), some (tI b), some (.int t), some (.fro ((List.range n).map (prP a b t))), o10, none]) (S := S) (prP a b t) (fun p => Val.int (max (a.getD p 0) (b.getD p 0 + t))) (List.range n) fun p _ => by
      refine ⟨_, s_gn .., ?_⟩
      have := max_pair (x := a.getD p 0) (y := b.getD p 0 + t) (S := S)
      unfold prP
      rw [s_call, s_cons, s_var]
      simp only [List.getElem?_set_self', List.set_cons_succ, List.set_cons_zero, List.getElem?_cons_succ, List.getElem?_cons_zero]
      rw [bnd_ok, s_nil, bnd_ok, bnd_ok, this]
    rw [this]
    unfold rmax
    rw [List.map_map, ha]
    rfl
  have lmn : lcL (gN 11) mYes (mCall vMin (mCons (mVar 11) (mNil))) [o0, o1, some (.ref 2), some (.ref 3), some (.int d), o5, some (tI a), some (tI b), some (.int t), some (.fro ((List.range n).map (prP a b t))), o10, none] ((List.range n).map (prP a b t)) S = some ((rmin a b t).map Val.int, S) := by
    have := lc_map (g := gN 11) (m := mCall vMin (mCons (mVar 11) (mNil))) (env := [o0, o1, some (.ref 2), some (.ref 3), some (.int d), o5, some (tI a), some (tI b), some (.int t), some (.fro ((List.range n).map (prP a b t))), o10, none]) (S := S) (prP a b t) (fun p => Val.int (min (a.getD p 0) (b.getD p 0 + t))) (List.range n) fun p _ => by
      refine ⟨_, s_gn .., ?_⟩
      have := min_pair (x := a.getD p 0) (y := b.getD p 0 + t) (S := S)
      unfold prP
      rw [s_call, s_cons, s_var]
      simp only [List.getElem?_set_self', List.set_cons_succ, List.set_cons_zero, List.getElem?_cons_succ, List.getElem?_cons_zero]
      rw [bnd_ok, s_nil, bnd_ok, bnd_ok, this]
    rw [this]
    unfold rmin
    rw [List.map_map, ha]
    rfl
  have rl : (rmax a b t).length = n := by simp [rmax, ha]
  have rl2 : (rmin a b t).length = n := by simp [rmin, ha]
  have ne1 : rmax a b t ≠ [] := fun z => by rw [z] at rl; simp at rl; omega
  have ne2 : rmin a b t ≠ [] := fun z => by rw [z] at rl2; simp at rl2; omega
  have c1 := call_level (S := S) w ne1 (by omega) (.inr rfl)
  have c2 := call_level (S := S) w ne2 (by omega) (.inr rfl)
  have it9 : ∀ o11 : Option Val, mItems (mVar 9) [o0, o1, some (.ref 2), some (.ref 3), some (.int d), o5, some (tI a), some (tI b), some (.int t), some (.fro ((List.range n).map (prP a b t))), o10, o11] S = some ((List.range n).map (prP a b t), S) := fun o11 => by
    rw [s_items, s_var]
    simp only [List.getElem?_cons_succ, List.getElem?_cons_zero]
    rw [bnd_ok]
    rfl
  have m1 : (mCall M__law_level (mCons (mLc false [11] (mItems (mVar 9)) (gN 11) (mYes) (mCall vMax (mCons (mVar 11) (mNil)))) (mNil))) [o0, o1, some (.ref 2), some (.ref 3), some (.int d), o5, some (tI a), some (tI b), some (.int t), some (.fro ((List.range n).map (prP a b t))), o10, o11] S = some (tI (cmax a b t), S) := by
    rw [s_call, s_cons, s_lc, it9, bnd_ok]
    simp only [wipeE, List.set_cons_succ, List.set_cons_zero]
    rw [lmx, bnd_ok, if_pos (by rw [List.length_map, rl, sizeLine_eq]; omega)]
    simp only [mk_f]
    rw [bnd_ok, s_nil, bnd_ok, bnd_ok, c1]
    rfl
  have m2 : (mCall M__law_level (mCons (mLc false [11] (mItems (mVar 9)) (gN 11) (mYes) (mCall vMin (mCons (mVar 11) (mNil)))) (mNil))) [o0, o1, some (.ref 2), some (.ref 3), some (.int d), o5, some (tI a), some (tI b), some (.int t), some (.fro ((List.range n).map (prP a b t))), o10, o11] S = some (tI (cmin a b t), S) := by
    rw [s_call, s_cons, s_lc, it9, bnd_ok]
    simp only [wipeE, List.set_cons_succ, List.set_cons_zero]
    rw [lmn, bnd_ok, if_pos (by rw [List.length_map, rl2, sizeLine_eq]; omega)]
    simp only [mk_f]
    rw [bnd_ok, s_nil, bnd_ok, bnd_ok, c2]
    rfl
  unfold mSHIFT
  rw [s_then, st9, bnd_ok]
  simp only []
  rw [s_for, s_items, s_fro, s_cons, m1, bnd_ok, s_cons, m2, bnd_ok, s_nil, bnd_ok, bnd_ok, bnd_ok, if_pos (by exact e2), bnd_ok]
  simp only [fro_f, Option.map_some]
  rw [bnd_ok]
  exact hp
theorem pushAll_append (F cs ds G : List (List Int)) : pushAll F (cs ++ ds) G = pushAll F ds (pushAll F cs G) := by
  unfold pushAll
  rw [List.foldl_append]
theorem pushAll_len (F : List (List Int)) : ∀ (cs G : List (List Int)), (pushAll F cs G).length ≤ G.length + cs.length
  | [], G => Nat.le_refl _
  | c :: cs, G => by
    have h := pushAll_len F cs (push F G c)
    have hl : (push F G c).length ≤ G.length + 1 := by
      unfold push
      split
      · omega
      · rw [List.length_append, List.length_singleton]; omega
    show (pushAll F cs (push F G c)).length ≤ _
    rw [List.length_cons]
    omega
def candT (a b : List Int) (ts : List Int) : List (List Int) := ts.flatMap fun t => [cmax a b t, cmin a b t]
theorem candT_len (a b : List Int) (ts : List Int) : (candT a b ts).length = 2 * ts.length := by
  induction ts with
  | nil => rfl
  | cons t ts ih =>
    unfold candT at ih ⊢
    rw [List.flatMap_cons, List.length_append, ih]
    simp only [List.length_cons, List.length_nil]
    omega
theorem loop_shift {F : List (List Int)} {n : Nat} {a b : List Int} (ha : a.length = n) (hb : b.length = n) (hn : 0 < n) (hn2 : n ≤ 900) : ∀ (ts : List Int) (G : List (List Int)) (o1 o8 o9 : Option Val), G.length + 2 * ts.length ≤ 4000000 → ∃ o1' o8' o9' : Option Val, forL (gN 8) mSHIFT (ts.map Val.int) [o0, o1, some (.ref 2), some (.ref 3), some (.int d), o5, some (tI a), some (tI b), o8, o9, o10, o11] (hs cells st (rrd F G))
    = some (.nx [o0, o1', some (.ref 2), some (.ref 3), some (.int d), o5, some (tI a), some (tI b), o8', o9', o10, o11], hs cells st (rrd F (pushAll F (candT a b ts) G)))
  | [], G, o1, o8, o9, _ => ⟨o1, o8, o9, rfl⟩
  | t :: ts, G, o1, o8, o9, h => by
    rw [List.length_cons] at h
    obtain ⟨p1, p9, h1⟩ := run_shift (cells := cells) (st := st) (d := d) (o0 := o0) (o5 := o5) (o10 := o10) (o11 := o11) (F := F) (G := G) (t := t) (o1 := o1) (o9 := o9) ha hb hn hn2 (by omega)
    have hl := pushAll_len F [cmax a b t, cmin a b t] G
    have e : [cmax a b t, cmin a b t].length = 2 := rfl
    obtain ⟨q1, q8, q9, h2⟩ := loop_shift (F := F) ha hb hn hn2 ts (pushAll F [cmax a b t, cmin a b t] G) p1 (some (.int t)) p9 (by omega)
    refine ⟨q1, q8, q9, ?_⟩
    rw [List.map_cons, for_cons, s_gn, bnd_ok]
    simp only [List.set_cons_succ, List.set_cons_zero]
    rw [h1, bnd_ok]
    have ec : candT a b (t :: ts) = [cmax a b t, cmin a b t] ++ candT a b ts := by unfold candT; rw [List.flatMap_cons]
    rw [ec, pushAll_append]
    exact h2
theorem shifts_rng {d : Int} : rngI (-d) (d + 1) = shifts d := by
  unfold rngI shifts
  rw [show (d + 1 - -d) = 2 * d + 1 by omega]
theorem shifts_len {d : Int} : (shifts d).length = (2 * d + 1).toNat := by unfold shifts; rw [List.length_map, List.length_range]
theorem loop_other {F : List (List Int)} {n : Nat} {a : List Int} (hd : 0 ≤ d ∧ d ≤ 2) (ha : a.length = n) (hn : 0 < n) (hn2 : n ≤ 900) : ∀ (bs G : List (List Int)) (o1 o7 o8 o9 : Option Val), (∀ b ∈ bs, b.length = n) → G.length + 18 * bs.length ≤ 4000000 → ∃ o1' o7' o8' o9' : Option Val, forL (gN 7) mOTHER (bs.map tI) [o0, o1, some (.ref 2), some (.ref 3), some (.int d), o5, some (tI a), o7, o8, o9, o10, o11] (hs cells st (rrd F G))
    = some (.nx [o0, o1', some (.ref 2), some (.ref 3), some (.int d), o5, some (tI a), o7', o8', o9', o10, o11], hs cells st (rrd F (pushAll F (cands (2 * d) a bs) G)))
  | [], G, o1, o7, o8, o9, _, _ => ⟨o1, o7, o8, o9, rfl⟩
  | b :: bs, G, o1, o7, o8, o9, hb, h => by
    rw [List.length_cons] at h
    have sl : (shifts (2 * d)).length ≤ 9 := by rw [shifts_len]; omega
    obtain ⟨p1, p8, p9, h1⟩ := loop_shift (cells := cells) (st := st) (d := d) (o0 := o0) (o5 := o5) (o10 := o10) (o11 := o11) (F := F) ha (hb b (by simp)) hn hn2 (shifts (2 * d)) G o1 o8 o9 (by omega)
    have hl := pushAll_len F (candT a b (shifts (2 * d))) G
    rw [candT_len] at hl
    obtain ⟨q1, q7, q8, q9, h2⟩ := loop_other (F := F) hd ha hn hn2 bs (pushAll F (candT a b (shifts (2 * d))) G) p1 (some (tI b)) p8 p9 (fun x hx => hb x (by simp [hx])) (by omega)
    refine ⟨q1, q7, q8, q9, ?_⟩
    rw [List.map_cons, for_cons, s_gn, bnd_ok]
    simp only [List.set_cons_succ, List.set_cons_zero]
    have rg : mRng2 (mCons (mBin vSub (mC (.int 0)) (mBin vMul (mC (.int 2)) (mVar 4))) (mCons (mBin vAdd (mBin vMul (mC (.int 2)) (mVar 4)) (mC (.int 1))) (mNil))) [o0, o1, some (.ref 2), some (.ref 3), some (.int d), o5, some (tI a), some (tI b), o8, o9, o10, o11] (hs cells st (rrd F G)) = some ((shifts (2 * d)).map Val.int, hs cells st (rrd F G)) := by
      rw [rng2_of (i := -(2 * d)) (j := 2 * d + 1) (S' := hs cells st (rrd F G)) (by omega) (by omega) (by
        generalize hs cells st (rrd F G) = S
        generalize tI a = u
        generalize tI b = v
        simp [cmul2]), shifts_rng]
    unfold mOTHER at h2 ⊢
    rw [s_for, rg, bnd_ok, h1, bnd_ok]
    have ec : cands (2 * d) a (b :: bs) = candT a b (shifts (2 * d)) ++ cands (2 * d) a bs := by unfold cands candT; rw [List.flatMap_cons]
    rw [ec, pushAll_append]
    exact h2
end
end T17
namespace T17
open PySem PySem.Spec PyProof.Rows L2 Fx
section
variable {cells : List Int} {st d : Int} {o0 o10 o11 : Option Val}
theorem left_nil {F G : List (List Int)} : vEqN false (.ref 3) (.fro []) (hs cells st (rrd F G)) = some (.bl G.isEmpty, hs cells st (rrd F G)) := by
  rw [v_nilG false at_G (toPyL_map toPy_tI G) (shaped_lR G)]
  cases G <;> rfl
/-- a turn that finds nothing left -/
theorem turn_end {F : List (List Int)} {o1 o5 o6 o7 o8 o9 : Option Val} : mTURN [o0, o1, some (.ref 2), some (.ref 3), some (.int d), o5, o6, o7, o8, o9, o10, o11] (hs cells st (rrd F []))
    = some (.bk [o0, o1, some (.ref 2), some (.ref 3), some (.int d), o5, o6, o7, o8, o9, o10, o11], hs cells st (rrd F [])) := by
  have ln := left_nil (cells := cells) (st := st) (F := F) (G := [])
  have e0 : (mWhen (mTest (mBin vEq (mVar 3) (mFro (mNil)))) (mBk) (mSkip)) [o0, o1, some (.ref 2), some (.ref 3), some (.int d), o5, o6, o7, o8, o9, o10, o11] (hs cells st (rrd F [])) = some (.bk [o0, o1, some (.ref 2), some (.ref 3), some (.int d), o5, o6, o7, o8, o9, o10, o11], hs cells st (rrd F [])) := by
    generalize hs cells st (rrd F []) = S at *
    simp [ln]
  unfold mTURN
  rw [s_then, e0, bnd_ok]
theorem turn_step {F G : List (List Int)} {n : Nat} {new : List Int} {o1 o5 o6 o7 o8 o9 : Option Val} (hd : 0 ≤ d ∧ d ≤ 2) (hn : 0 < n) (hn2 : n ≤ 900) (hF : ∀ x ∈ F, x.length = n) (hw : new.length = n) (h1 : F.length ≤ 1000) (h2 : G.length ≤ 3900000) :
    ∃ o1' o6' o7' o8' o9' : Option Val, mTURN [o0, o1, some (.ref 2), some (.ref 3), some (.int d), o5, o6, o7, o8, o9, o10, o11] (hs cells st (rrd F (G ++ [new])))
    = some (.nx [o0, o1', some (.ref 2), some (.ref 3), some (.int d), o5, o6', o7', o8', o9', o10, o11], if new ∈ F then hs cells st (rrd F G) else hs cells st (rrd (F ++ [new]) (pushAll (F ++ [new]) (cands (2 * d) new (F ++ [new])) G))) := by
  have ln := left_nil (cells := cells) (st := st) (F := F) (G := G ++ [new])
  have ne : (G ++ [new]).isEmpty = false := by cases G <;> rfl
  rw [ne] at ln
  have e0 : (mWhen (mTest (mBin vEq (mVar 3) (mFro (mNil)))) (mBk) (mSkip)) [o0, o1, some (.ref 2), some (.ref 3), some (.int d), o5, o6, o7, o8, o9, o10, o11] (hs cells st (rrd F (G ++ [new]))) = some (.nx [o0, o1, some (.ref 2), some (.ref 3), some (.int d), o5, o6, o7, o8, o9, o10, o11], hs cells st (rrd F (G ++ [new]))) := by
    generalize hs cells st (rrd F (G ++ [new])) = S at *
    simp [ln]
  have pp : vPop (.ref 3) [] (hs cells st (rrd F (G ++ [new]))) = some (tI new, hs cells st (rrd F G)) := by
    have e : (G ++ [new]).map tI = G.map tI ++ [tI new] := by rw [List.map_append]; rfl
    rw [v_pop, at_G]
    dsimp only
    rw [e]
    have e3 : (G.map tI ++ [tI new])[(G.map tI ++ [tI new]).length - 1]? = some (tI new) := by simp
    rw [e3, List.dropLast_concat]
    rfl
  have e1 : (mSet (mMeth "list" vPop (mVar 3) mNil) (gN 6)) [o0, o1, some (.ref 2), some (.ref 3), some (.int d), o5, o6, o7, o8, o9, o10, o11] (hs cells st (rrd F (G ++ [new]))) = some (.nx [o0, o1, some (.ref 2), some (.ref 3), some (.int d), o5, some (tI new), o7, o8, o9, o10, o11], hs cells st (rrd F G)) := by
    have g := at_G (cells := cells) (st := st) (F := F) (G := G ++ [new])
    generalize tI new = u at pp ⊢
    generalize hs cells st (rrd F (G ++ [new])) = S at *
    simp [pp, g, -v_pop]
  have nf := in_F (cells := cells) (st := st) (F := F) (G := G) (x := new)
  have t1 : (mTest (mBin (vIn2 true) (mVar 6) (mVar 2))) [o0, o1, some (.ref 2), some (.ref 3), some (.int d), o5, some (tI new), o7, o8, o9, o10, o11] (hs cells st (rrd F G)) = some (!decide (new ∈ F), hs cells st (rrd F G)) := by
    generalize tI new = u at nf ⊢
    generalize hs cells st (rrd F G) = S at *
    simp [nf]
  unfold mTURN
  rw [s_then, e0, bnd_ok]
  simp only []
  rw [s_then, e1, bnd_ok]
  simp only []
  rw [s_when, t1, bnd_ok]
  by_cases q : new ∈ F
  · refine ⟨o1, some (tI new), o7, o8, o9, ?_⟩
    rw [if_pos q, decide_eq_true q, if_neg (by decide), s_skip]
  · have ap := app_F (cells := cells) (st := st) (F := F) (G := G) (x := new) (by omega)
    have e2 : (mDo (mMeth "list" vAppend (mVar 2) (mCons (mVar 6) (mNil)))) [o0, o1, some (.ref 2), some (.ref 3), some (.int d), o5, some (tI new), o7, o8, o9, o10, o11] (hs cells st (rrd F G)) = some (.nx [o0, o1, some (.ref 2), some (.ref 3), some (.int d), o5, some (tI new), o7, o8, o9, o10, o11], hs cells st (rrd (F ++ [new]) G)) := by
      have g := at_F (cells := cells) (st := st) (F := F) (G := G)
      generalize tI new = u at ap ⊢
      generalize hs cells st (rrd (F ++ [new]) G) = S' at *
      generalize hs cells st (rrd F G) = S at *
      simp [ap, g, -Fx.v_app]
    have it : mItems (mCall (vList false) (mCons (mVar 2) (mNil))) [o0, o1, some (.ref 2), some (.ref 3), some (.int d), o5, some (tI new), o7, o8, o9, o10, o11] (hs cells st (rrd (F ++ [new]) G)) = some ((F ++ [new]).map tI, hs cells st (rrd (F ++ [new]) G)) := by
      have vl : vList false [.ref 2] (hs cells st (rrd (F ++ [new]) G)) = some (.fro ((F ++ [new]).map tI), hs cells st (rrd (F ++ [new]) G)) := by
        unfold vList
        dsimp only
        rw [lst_ref, at_F]
        rfl
      generalize (F ++ [new]).map tI = l at *
      generalize hs cells st (rrd (F ++ [new]) G) = S at *
      simp [vl]
    obtain ⟨p1, p7, p8, p9, hl⟩ := loop_other (cells := cells) (st := st) (o0 := o0) (o5 := o5) (o10 := o10) (o11 := o11) (F := F ++ [new]) (a := new) hd hw hn hn2 (F ++ [new]) G o1 o7 o8 o9 (fun x hx => by
      rcases List.mem_append.mp hx with h | h
      · exact hF x h
      · rw [List.mem_singleton.mp h]; exact hw) (by rw [List.length_append, List.length_singleton]; omega)
    refine ⟨p1, some (tI new), p7, p8, p9, ?_⟩
    rw [if_neg q, decide_eq_false q, if_pos (by rfl), s_then, e2, bnd_ok]
    simp only []
    rw [s_for, it, bnd_ok, hl]
theorem cands_len (d : Int) (a : List Int) (bs : List (List Int)) : (cands d a bs).length = 2 * (shifts d).length * bs.length := by
  induction bs with
  | nil => rfl
  | cons b bs ih =>
    unfold cands at ih ⊢
    have h := candT_len a b (shifts d)
    unfold candT at h
    rw [List.flatMap_cons, List.length_append, ih, List.length_cons, h, Nat.mul_succ]
    omega
theorem rounds_snoc (d : Int) (k : Nat) (F G : List (List Int)) (new : List Int) : rounds d (k + 1) F (G ++ [new]) = if new ∈ F then rounds d k F G else rounds d k (F ++ [new]) (pushAll (F ++ [new]) (cands d new (F ++ [new])) G) := by
  rw [rounds]
  simp only [List.getLast?_concat, List.dropLast_concat]
theorem loop_round {n : Nat} (hd : 0 ≤ d ∧ d ≤ 2) (hn : 0 < n) (hn2 : n ≤ 900) : ∀ (xs : List Val) (F G : List (List Int)) (o1 o5 o6 o7 o8 o9 : Option Val), (∀ x ∈ F, x.length = n) → (∀ x ∈ G, x.length = n) → F.length + xs.length ≤ 401 → G.length + 7300 * xs.length ≤ 3000000 → ∃ (G' : List (List Int)) (o1' o5' o6' o7' o8' o9' : Option Val),
    forL (gN 5) mTURN xs [o0, o1, some (.ref 2), some (.ref 3), some (.int d), o5, o6, o7, o8, o9, o10, o11] (hs cells st (rrd F G))
    = some (.nx [o0, o1', some (.ref 2), some (.ref 3), some (.int d), o5', o6', o7', o8', o9', o10, o11], hs cells st (rrd (rounds (2 * d) xs.length F G) G'))
  | [], F, G, o1, o5, o6, o7, o8, o9, _, _, _, _ => ⟨G, o1, o5, o6, o7, o8, o9, rfl⟩
  | x :: xs, F, G, o1, o5, o6, o7, o8, o9, hF, hG, h1, h2 => by
    rw [List.length_cons] at h1 h2
    rw [List.length_cons]
    cases e : G.getLast? with
    | none =>
      have := List.getLast?_eq_none_iff.mp e
      subst this
      refine ⟨[], o1, some x, o6, o7, o8, o9, ?_⟩
      rw [for_cons, s_gn, bnd_ok]
      simp only [List.set_cons_succ, List.set_cons_zero]
      rw [turn_end, bnd_ok]
      rfl
    | some new =>
      have eG := last_split e
      generalize G.dropLast = G0 at *
      subst eG
      have hw := hG new (by simp)
      have hG0 : ∀ x ∈ G0, x.length = n := fun y hy => hG y (by simp [hy])
      rw [List.length_append, List.length_singleton] at h2
      obtain ⟨p1, p6, p7, p8, p9, hs1⟩ := turn_step (cells := cells) (st := st) (o0 := o0) (o5 := some x) (o6 := o6) (o7 := o7) (o8 := o8) (o9 := o9) (o10 := o10) (o11 := o11) (o1 := o1) (F := F) (G := G0) (new := new) hd hn hn2 hF hw (by omega) (by omega)
      rw [rounds_snoc]
      by_cases q : new ∈ F
      · rw [if_pos q] at hs1
        rw [if_pos q]
        obtain ⟨G', r1, r5, r6, r7, r8, r9, hr⟩ := loop_round hd hn hn2 xs F G0 p1 (some x) p6 p7 p8 p9 hF hG0 (by omega) (by omega)
        refine ⟨G', r1, r5, r6, r7, r8, r9, ?_⟩
        rw [for_cons, s_gn, bnd_ok]
        simp only [List.set_cons_succ, List.set_cons_zero]
        rw [hs1, bnd_ok]
        exact hr
      · rw [if_neg q] at hs1
        rw [if_neg q]
        have hl := pushAll_len (F ++ [new]) (cands (2 * d) new (F ++ [new])) G0
        have sl : (shifts (2 * d)).length ≤ 9 := by rw [shifts_len]; omega
        rw [cands_len, List.length_append, List.length_singleton] at hl
        have m1 : 2 * (shifts (2 * d)).length * (F.length + 1) ≤ 18 * 401 := Nat.mul_le_mul (by omega) (by omega)
        have hP : ∀ y ∈ pushAll (F ++ [new]) (cands (2 * d) new (F ++ [new])) G0, y.length = n := fun y hy => by
          rcases pushAll_inv _ _ hy with h | h
          · exact hG0 y h
          · unfold cands at h
            obtain ⟨b, _, h⟩ := List.mem_flatMap.mp h
            obtain ⟨t, _, h⟩ := List.mem_flatMap.mp h
            rcases List.mem_cons.mp h with e | h
            · rw [e, cmax_len, hw]
            · rw [List.mem_singleton.mp h, cmin_len, hw]
        obtain ⟨G', r1, r5, r6, r7, r8, r9, hr⟩ := loop_round hd hn hn2 xs (F ++ [new]) (pushAll (F ++ [new]) (cands (2 * d) new (F ++ [new])) G0) p1 (some x) p6 p7 p8 p9 (fun y hy => by
          rcases List.mem_append.mp hy with h | h
          · exact hF y h
          · rw [List.mem_singleton.mp h]; exact hw) hP (by rw [List.length_append, List.length_singleton]; omega) (by omega)
        refine ⟨G', r1, r5, r6, r7, r8, r9, ?_⟩
        rw [for_cons, s_gn, bnd_ok]
        simp only [List.set_cons_succ, List.set_cons_zero]
        rw [hs1, bnd_ok]
        exact hr
end
theorem call_round {L : List (List Int)} {n : Nat} {cells : List Int} {st : Int} (hL : L ≠ []) (hl : ∀ s ∈ L, s.length = n) (hn : 0 < n) (hn2 : n ≤ 900) (hz : L.length ≤ 900) (hf : farOf L ≤ 2) :
    M__law_round [tR L] (hs cells st []) = some (.fro ((srtL (rounds (2 * farOf L) 400 [] (L.map level))).map tI), hs cells st []) := by
  have hd : 0 ≤ farOf L ∧ farOf L ≤ 2 := ⟨far_pos hL hl hn, hf⟩
  have w := wfr_nil cells st
  have ll : ∀ x ∈ L.map level, x.length = n := fun x hx => by
    obtain ⟨s, hs, rfl⟩ := List.mem_map.mp hx
    rw [level_len, hl s hs]
  have lx : ((List.range 400).map fun i => Val.int (i : Nat)).length = 400 := by rw [List.length_map, List.length_range]
  obtain ⟨G', o1, o5, o6, o7, o8, o9, h⟩ := loop_round (cells := cells) (st := st) (o0 := some (tR L)) (o10 := none) (o11 := none) hd hn hn2 ((List.range 400).map fun i => Val.int (i : Nat)) [] (L.map level) none none none none none none (fun x hx => by simp at hx) ll (by rw [lx]; simp) (by rw [lx, List.length_map]; omega)
  rw [lx] at h
  have hR : ∀ x ∈ rounds (2 * farOf L) 400 [] (L.map level), x.length = n := by
    have key : ∀ (k : Nat) (F G : List (List Int)), (∀ x ∈ F, x.length = n) → (∀ x ∈ G, x.length = n) → ∀ x ∈ rounds (2 * farOf L) k F G, x.length = n := by
      intro k
      induction k with
      | zero => intro F G hF _; exact hF
      | succ k ih =>
        intro F G hF hG
        unfold rounds
        cases e : G.getLast? with
        | none => exact hF
        | some new =>
          have eG := last_split e
          generalize G.dropLast = G0 at *
          subst eG
          have hw := hG new (by simp)
          have hG0 : ∀ x ∈ G0, x.length = n := fun y hy => hG y (by simp [hy])
          dsimp only
          split
          · exact ih F G0 hF hG0
          · refine ih _ _ (fun y hy => ?_) fun y hy => ?_
            · rcases List.mem_append.mp hy with h | h
              · exact hF y h
              · rw [List.mem_singleton.mp h]; exact hw
            · rcases pushAll_inv _ _ hy with h | h
              · exact hG0 y h
              · unfold cands at h
                obtain ⟨b, _, h⟩ := List.mem_flatMap.mp h
                obtain ⟨t, _, h⟩ := List.mem_flatMap.mp h
                rcases List.mem_cons.mp h with e | h
                · rw [e, cmax_len, hw]
                · rw [List.mem_singleton.mp h, cmin_len, hw]
    exact key 400 [] (L.map level) (fun x hx => by simp at hx) ll
  generalize rounds (2 * farOf L) 400 [] (L.map level) = F at *
  refine gen_id (S1 := hs cells st []) (J := [.lst (F.map tI), .lst (G'.map tI)]) ?_ rfl w (by simp; exact refLtL_map refLt_tI _)
  unfold runB
  rw [show m__law_round = mThen (mPar 2 3 (mCons (mLst (mNil)) (mCons (mLc true [1] (mItems (mVar 0)) (gN 1) (mYes) (mCall M__law_level (mCons (mVar 1) (mNil)))) (mNil))))
 (mThen (mSet (mCall vMax (mCons (mLc false [1] (mItems (mVar 0)) (gN 1) (mYes) (mBin vSub (mCall vMax (mCons (mVar 1) (mNil))) (mCall vMin (mCons (mVar 1) (mNil))))) (mNil))) (gN 4))
 (mThen (mFor (mRng1 (mCons (mC (.int 400)) (mNil))) (gN 5) mTURN)
 (mRet (mCall (vSorted false) (mCons (mVar 2) (mNil)))))) from rfl]
  rw [show startE N__law_round [tR L] = [some (tR L), none, none, none, none, none, none, none, none, none, none, none] from rfl]
  have it : ∀ (o1 : Option Val) (o2 o3 : Option Val) (S : Store), mItems (mVar 0) [some (tR L), o1, o2, o3, none, none, none, none, none, none, none, none] S = some (L.map tI, S) := fun o1 o2 o3 S => by unfold tR; simp
  have w1 : Wf (hs cells st [.lst []]) := by
    have : WfR [.lst []] := fun cells st i c h => by
      match i with
      | 0 => simp [hs] at h; subst h; simp [refLtC]
      | 1 => simp [hs] at h; subst h; simp [refLtC, hs]
      | 2 => simp [hs] at h; subst h; simp [refLtC]
      | i + 3 => simp [hs] at h
    exact this cells st
  have ll1 : lcL (gN 1) mYes (mCall M__law_level (mCons (mVar 1) (mNil))) [some (tR L), none, none, none, none, none, none, none, none, none, none, none] (L.map tI) (hs cells st [.lst []]) = some ((L.map level).map tI, hs cells st [.lst []]) :=
    lc_map2 tI tI level L fun s hs' => by
      refine ⟨_, s_gn .., ?_⟩
      have ls := hl s hs'
      have c := call_level (S := hs cells st [.lst []]) (l := s) w1 (fun z => by rw [z] at ls; simp at ls; omega) (by omega) (.inl rfl)
      generalize hs cells st [.lst []] = S at *
      generalize tI s = u at *
      simp [c]
  have e1 : (mPar 2 3 (mCons (mLst (mNil)) (mCons (mLc true [1] (mItems (mVar 0)) (gN 1) (mYes) (mCall M__law_level (mCons (mVar 1) (mNil)))) (mNil)))) [some (tR L), none, none, none, none, none, none, none, none, none, none, none] (hs cells st []) = some (.nx [some (tR L), none, some (.ref 2), some (.ref 3), none, none, none, none, none, none, none, none], hs cells st (rrd [] (L.map level))) := by
    have el : mLst mNil [some (tR L), none, none, none, none, none, none, none, none, none, none, none] (hs cells st []) = some (.ref 2, hs cells st [.lst []]) := by
      rw [s_lst, s_nil, bnd_ok, if_pos (by simp)]
      rfl
    have ec : (mLc true [1] (mItems (mVar 0)) (gN 1) (mYes) (mCall M__law_level (mCons (mVar 1) (mNil)))) [some (tR L), none, none, none, none, none, none, none, none, none, none, none] (hs cells st [.lst []]) = some (.ref 3, hs cells st (rrd [] (L.map level))) := by
      rw [s_lc, it, bnd_ok]
      simp only [wipeE, List.set_cons_succ, List.set_cons_zero]
      rw [ll1, bnd_ok, if_pos (by rw [List.length_map, List.length_map, sizeLine_eq]; omega)]
      rfl
    rw [s_par, s_cons, el, bnd_ok, s_cons, ec, bnd_ok, s_nil, bnd_ok, bnd_ok, bnd_ok]
    rfl
  have hmx : ∀ (s : List Int) (S : Store), s ≠ [] → vMax [tI s] S = some (.int (most s), S) := fun s S h => by
    unfold tI
    rw [v_maxT, intsOf_map, Option.bind_some, maxI_some h]
    rfl
  have hmn : ∀ (s : List Int) (S : Store), s ≠ [] → vMin [tI s] S = some (.int (least s), S) := fun s S h => by
    unfold tI
    rw [v_minT, intsOf_map, Option.bind_some, minI_some h]
    rfl
  have lf : ∀ S : Store, lcL (gN 1) mYes (mBin vSub (mCall vMax (mCons (mVar 1) (mNil))) (mCall vMin (mCons (mVar 1) (mNil)))) [some (tR L), none, some (.ref 2), some (.ref 3), none, none, none, none, none, none, none, none] (L.map tI) S = some ((L.map fun s => most s - least s).map Val.int, S) := fun S =>
    lc_map2 tI Val.int (fun s => most s - least s) L fun s hs' => by
      refine ⟨_, s_gn .., ?_⟩
      have ls := hl s hs'
      have ne : s ≠ [] := fun z => by rw [z] at ls; simp at ls; omega
      have a := hmx s S ne
      have b := hmn s S ne
      generalize tI s = u at *
      simp [a, b]
  have e2 : (mSet (mCall vMax (mCons (mLc false [1] (mItems (mVar 0)) (gN 1) (mYes) (mBin vSub (mCall vMax (mCons (mVar 1) (mNil))) (mCall vMin (mCons (mVar 1) (mNil))))) (mNil))) (gN 4)) [some (tR L), none, some (.ref 2), some (.ref 3), none, none, none, none, none, none, none, none] (hs cells st (rrd [] (L.map level))) = some (.nx [some (tR L), none, some (.ref 2), some (.ref 3), some (.int (farOf L)), none, none, none, none, none, none, none], hs cells st (rrd [] (L.map level))) := by
    have ne : (L.map fun s => most s - least s) ≠ [] := by simpa using hL
    have vm : ∀ S : Store, vMax [.fro ((L.map fun s => most s - least s).map Val.int)] S = some (.int (farOf L), S) := fun S => by
      rw [v_maxF, intsOf_map, Option.bind_some, maxI_some ne]
      rfl
    rw [s_set, s_call, s_cons, s_lc, it, bnd_ok]
    simp only [wipeE, List.set_cons_succ, List.set_cons_zero]
    rw [lf, bnd_ok, if_pos (by rw [List.length_map, List.length_map, sizeLine_eq]; omega)]
    simp only [mk_f]
    rw [bnd_ok, s_nil, bnd_ok, bnd_ok, vm, bnd_ok, s_gn, bnd_ok]
    simp only [List.set_cons_succ, List.set_cons_zero]
  have rg : mRng1 (mCons (mC (.int 400)) (mNil)) [some (tR L), none, some (.ref 2), some (.ref 3), some (.int (farOf L)), none, none, none, none, none, none, none] (hs cells st (rrd [] (L.map level))) = some ((List.range 400).map fun i => Val.int (i : Nat), hs cells st (rrd [] (L.map level))) := rng_of (n := 400) (by omega) (by
    rw [s_cons, s_c, bnd_ok, s_nil, bnd_ok]
    rfl)
  rw [s_then, e1, bnd_ok]
  simp only []
  rw [s_then, e2, bnd_ok]
  simp only []
  rw [s_then, s_for, rg, bnd_ok, h, bnd_ok]
  simp only []
  rw [s_ret, s_call, s_cons, s_var]
  simp only [List.getElem?_cons_succ, List.getElem?_cons_zero]
  rw [bnd_ok, s_nil, bnd_ok, bnd_ok, call_sorted (n := n) (by rw [lst_ref, at_F]) hR hn, bnd_ok]
  rfl
end T17
namespace T17
open PySem PySem.Spec PyProof.Rows L2 Fx
/-! ### _law_between_right -/
/-- a drawn tuple of small numbers -/
theorem draw_row {n : Nat} {m : Int} (hm : 0 < m) (hm2 : m.natAbs.log2 < 9000) (hn : n ≤ 900) {o2 o3 o4 o5 o6 o7 o8 o9 : Option Val} {cells : List Int} {st : Int} (hc : cells.length ≤ 60) : ∃ (s : List Int) (c' : List Int) (s' : Int), s.length = n ∧ (∀ x ∈ s, 0 ≤ x ∧ x < m) ∧ c'.length ≤ 60 ∧
    (mCall vTuple (mCons (mLc false [8] (mRng1 (mCons (mVar 1) (mNil))) (gN 8) (mYes) (mCall M__law_draw (mCons (mVar 0) (mCons (mC (.int m)) (mNil))))) (mNil))) [some (.ref 1), some (.int (n : Int)), o2, o3, o4, o5, o6, o7, o8, o9] (hs cells st []) = some (tI s, hs c' s' []) := by
  obtain ⟨vs, c2, s2, l2, qb, hc2, h2⟩ := lc_heap (R := []) (g := gN 8) (m := mCall M__law_draw (mCons (mVar 0) (mCons (mC (.int m)) (mNil)))) (env := [some (.ref 1), some (.int (n : Int)), o2, o3, o4, o5, o6, o7, none, o9]) Val.int (fun v => 0 ≤ v ∧ v < m) ((List.range n).map fun i => Val.int (i : Nat)) (fun y _ cells st hc => by
    obtain ⟨i, c3, s3, hc3, a1, a2, d3⟩ := call_draw (R := []) (cells := cells) (st := st) (m := m) wfr_nil hc hm hm2
    refine ⟨i, c3, s3, _, ⟨a1, a2⟩, hc3, s_gn .., ?_⟩
    simp [d3]) cells st hc
  rw [List.length_map, List.length_range] at l2
  refine ⟨vs, c2, s2, l2, qb, hc2, ?_⟩
  have rg : mRng1 (mCons (mVar 1) (mNil)) [some (.ref 1), some (.int (n : Int)), o2, o3, o4, o5, o6, o7, o8, o9] (hs cells st []) = some ((List.range n).map fun i => Val.int (i : Nat), hs cells st []) := rng_of (by omega) (by simp)
  rw [s_call, s_cons, s_lc, rg, bnd_ok]
  simp only [wipeE, List.set_cons_succ, List.set_cons_zero]
  rw [h2, bnd_ok, if_pos (by rw [List.length_map, l2, sizeLine_eq]; omega)]
  simp only [mk_f]
  rw [bnd_ok, s_nil, bnd_ok, bnd_ok, v_tupF]
  rfl
/-- the drawn settings -/
theorem draw_few {n : Nat} (hn : n ≤ 900) {cells : List Int} {st : Int} (hc : cells.length ≤ 60) : ∃ (L : List (List Int)) (c' : List Int) (s' : Int), L ≠ [] ∧ L.length ≤ 4 ∧ (∀ s ∈ L, s.length = n) ∧ (∀ s ∈ L, ∀ x ∈ s, 0 ≤ x ∧ x < 3) ∧ c'.length ≤ 60 ∧
    (mSet (mCall vTuple (mCons (mLc false [2] (mRng1 (mCons (mBin vAdd (mC (.int 1)) (mCall M__law_draw (mCons (mVar 0) (mCons (mIf (mTest (mBin vGt (mVar 1) (mC (.int 2)))) (mC (.int 3)) (mC (.int 4))) (mNil))))) (mNil))) (gN 2) (mYes) (mCall vTuple (mCons (mLc false [8] (mRng1 (mCons (mVar 1) (mNil))) (gN 8) (mYes) (mCall M__law_draw (mCons (mVar 0) (mCons (mC (.int 3)) (mNil))))) (mNil)))) (mNil))) (gN 3)) [some (.ref 1), some (.int (n : Int)), none, none, none, none, none, none, none, none] (hs cells st [])
      = some (.nx [some (.ref 1), some (.int (n : Int)), none, some (tR L), none, none, none, none, none, none], hs c' s' []) := by
  obtain ⟨m, hm, hm4, e4⟩ : ∃ m : Int, 0 < m ∧ m ≤ 4 ∧ (mIf (mTest (mBin vGt (mVar 1) (mC (.int 2)))) (mC (.int 3)) (mC (.int 4))) [some (.ref 1), some (.int (n : Int)), none, none, none, none, none, none, none, none] (hs cells st []) = some (.int m, hs cells st []) := by
    by_cases q : (2 : Int) < (n : Int)
    · refine ⟨3, by omega, by omega, ?_⟩
      generalize (n : Int) = k at *
      simp [q]
    · refine ⟨4, by omega, by omega, ?_⟩
      generalize (n : Int) = k at *
      simp [q]
  obtain ⟨v, c1, s1, hc1, p1, p2, hd⟩ := call_draw (R := []) (cells := cells) (st := st) (m := m) wfr_nil hc hm (small_log hm (by omega))
  obtain ⟨k, rfl⟩ : ∃ k : Nat, v = (k : Int) := ⟨v.toNat, by omega⟩
  have e1 : (1 + (k : Int)) = ((k + 1 : Nat) : Int) := by omega
  obtain ⟨vs, c2, s2, l2, qb, hc2, h2⟩ := lc_heap (R := []) (g := gN 2) (m := (mCall vTuple (mCons (mLc false [8] (mRng1 (mCons (mVar 1) (mNil))) (gN 8) (mYes) (mCall M__law_draw (mCons (mVar 0) (mCons (mC (.int 3)) (mNil))))) (mNil)))) (env := [some (.ref 1), some (.int (n : Int)), none, none, none, none, none, none, none, none]) tI (fun s => s.length = n ∧ ∀ x ∈ s, 0 ≤ x ∧ x < 3) ((List.range (k + 1)).map fun i => Val.int (i : Nat)) (fun y _ cells st hc => by
    obtain ⟨s, c3, s3, ls, bs, hc3, d3⟩ := draw_row (m := 3) (by decide) (by decide) hn (o2 := some y) (o3 := none) (o4 := none) (o5 := none) (o6 := none) (o7 := none) (o8 := none) (o9 := none) (st := st) hc
    exact ⟨s, c3, s3, _, ⟨ls, bs⟩, hc3, s_gn .., d3⟩) c1 s1 hc1
  rw [List.length_map, List.length_range] at l2
  refine ⟨vs, c2, s2, fun z => by rw [z] at l2; simp at l2, by omega, fun s h => (qb s h).1, fun s h => (qb s h).2, hc2, ?_⟩
  have rg : mRng1 (mCons (mBin vAdd (mC (.int 1)) (mCall M__law_draw (mCons (mVar 0) (mCons (mIf (mTest (mBin vGt (mVar 1) (mC (.int 2)))) (mC (.int 3)) (mC (.int 4))) (mNil))))) (mNil)) [some (.ref 1), some (.int (n : Int)), none, none, none, none, none, none, none, none] (hs cells st []) = some ((List.range (k + 1)).map fun i => Val.int (i : Nat), hs c1 s1 []) := by
    rw [← rangeV_nat]
    refine rng1_of (by omega) ?_
    generalize mIf _ _ _ = mi at *
    simp [e4, hd, e1]
  rw [s_set, s_call, s_cons, s_lc, rg, bnd_ok]
  simp only [wipeE, List.set_cons_succ, List.set_cons_zero]
  rw [h2, bnd_ok, if_pos (by rw [List.length_map, l2, sizeLine_eq]; omega)]
  simp only [mk_f]
  rw [bnd_ok, s_nil, bnd_ok, bnd_ok, v_tupF, bnd_ok, s_gn, bnd_ok]
  rfl
theorem bnd_few {L : List (List Int)} (h : ∀ s ∈ L, ∀ x ∈ s, 0 ≤ x ∧ x < 3) : Bnd 2 L := fun s hs x hx => by
  have := h s hs x hx
  omega
theorem far_few {L : List (List Int)} {n : Nat} (hL : L ≠ []) (hn : ∀ s ∈ L, s.length = n) (h0 : 0 < n) (h : ∀ s ∈ L, ∀ x ∈ s, 0 ≤ x ∧ x < 3) : farOf L ≤ 2 := by
  have ne : (L.map fun s => most s - least s) ≠ [] := by simpa using hL
  obtain ⟨s, hs, e⟩ := List.mem_map.mp (most_mem ne)
  have ls := hn s hs
  have ns : s ≠ [] := fun z => by rw [z] at ls; simp at ls; omega
  have h1 := h s hs _ (most_mem ns)
  have h2 := h s hs _ (least_mem ns)
  have e' : farOf L = most s - least s := e.symm
  omega
theorem hullE_few {L : List (List Int)} {n : Nat} (hL : L ≠ []) (hn : ∀ s ∈ L, s.length = n) (h : ∀ s ∈ L, ∀ x ∈ s, 0 ≤ x ∧ x < 3) {a t : Nat} (ha : a < n) (ht : t < n) : -2 ≤ hullE L a t ∧ hullE L a t ≤ 2 := by
  obtain ⟨s, hs, e⟩ := hullE_is hL a t
  have ls := hn s hs
  have h1 := h s hs _ (getD_mem (s := s) (p := a) (by omega))
  have h2 := h s hs _ (getD_mem (s := s) (p := t) (by omega))
  omega
/-- the settings that keep the hull, told by both roads -/
theorem same_few {L : List (List Int)} {n : Nat} (hL : L ≠ []) (hl : L.length ≤ 4) (hn : ∀ s ∈ L, s.length = n) (h0 : 0 < n) (h3 : n ≤ 3) (h : ∀ s ∈ L, ∀ x ∈ s, 0 ≤ x ∧ x < 3) :
    srtL ((allF (hull L n) (n - 1)).filter (keeps (hull L n))) = srtL (rounds (2 * farOf L) 400 [] (L.map level)) := by
  obtain ⟨n1, m1⟩ := all_mem (L := L) h0
  have lU : ((allF (hull L n) (n - 1)).filter (keeps (hull L n))).length ≤ 25 := by
    refine Nat.le_trans (List.length_filter_le _ _) ?_
    have h1 := len_allF (R := hull L n) (k := 5) (n - 1) fun p hp => by
      have e1 : ent (hull L n) 0 (p + 1) = hullE L 0 (p + 1) := hull_at h0 (by omega)
      have e2 : ent (hull L n) (p + 1) 0 = hullE L (p + 1) 0 := hull_at (by omega) h0
      have h1 := hullE_few hL hn h h0 (show p + 1 < n by omega)
      have h2 := hullE_few hL hn h (show p + 1 < n by omega) h0
      rw [e1, e2]
      omega
    have : n - 1 = 0 ∨ n - 1 = 1 ∨ n - 1 = 2 := by omega
    rcases this with e | e | e <;> rw [e] at h1 ⊢ <;> omega
  obtain ⟨n2, m2⟩ := round_mem (U := (allF (hull L n) (n - 1)).filter (keeps (hull L n))) (k := 400) h0 hL hn (fun x hx => (m1 x).mpr hx) (by omega)
  exact srtL_same n1 n2 fun x => by rw [m1, m2]
theorem loop_kept {L : List (List Int)} {n : Nat} {sh : Int} {S : Store} (w : Wf S) (hL : L ≠ []) (hn : ∀ s ∈ L, s.length = n) (hz : n ≤ 900) (hz2 : L.length ≤ 900) {b b2 b4 b5 b8 b9 : Option Val} : ∀ (xs : List (List Int)) (o : Option Val), (∀ x ∈ xs, x.length = n) → ∃ o' : Option Val,
    forL (gN 7) (mWhen (mNot (mTru (mCall M__law_picks_right (mCons (mVar 3) (mCons (mCall vTuple (mCons (mLc false [9] (mItems (mVar 7)) (gN 9) (mYes) (mBin vAdd (mVar 9) (mVar 6))) (mNil))) (mNil)))))) (mRet (mC (.bl false))) (mSkip)) (xs.map tI) [some (.ref 1), b, b2, some (tR L), b4, b5, some (.int sh), o, b8, b9] S
      = some (.nx [some (.ref 1), b, b2, some (tR L), b4, b5, some (.int sh), o', b8, b9], S)
  | [], o, _ => ⟨o, rfl⟩
  | x :: xs, o, hx => by
    have lx := hx x (by simp)
    obtain ⟨o', ih⟩ := loop_kept w hL hn hz hz2 (sh := sh) (b := b) (b2 := b2) (b4 := b4) (b5 := b5) (b8 := b8) (b9 := b9) xs (some (tI x)) fun y hy => hx y (by simp [hy])
    refine ⟨o', ?_⟩
    rw [List.map_cons, for_cons, s_gn, bnd_ok]
    simp only [List.set_cons_succ, List.set_cons_zero]
    have lc : lcL (gN 9) mYes (mBin vAdd (mVar 9) (mVar 6)) [some (.ref 1), b, b2, some (tR L), b4, b5, some (.int sh), some (tI x), b8, none] (x.map Val.int) S = some ((x.map fun y => y + sh).map Val.int, S) :=
      lc_map2 Val.int Val.int (fun y => y + sh) x fun y _ => by
        refine ⟨_, s_gn .., ?_⟩
        simp
    have it : mItems (mVar 7) [some (.ref 1), b, b2, some (tR L), b4, b5, some (.int sh), some (tI x), b8, b9] S = some (x.map Val.int, S) := by unfold tI; simp
    have tu : (mCall vTuple (mCons (mLc false [9] (mItems (mVar 7)) (gN 9) (mYes) (mBin vAdd (mVar 9) (mVar 6))) (mNil))) [some (.ref 1), b, b2, some (tR L), b4, b5, some (.int sh), some (tI x), b8, b9] S = some (tI (x.map fun y => y + sh), S) := by
      rw [s_call, s_cons, s_lc, it, bnd_ok]
      simp only [wipeE, List.set_cons_succ, List.set_cons_zero]
      rw [lc, bnd_ok, if_pos (by rw [List.length_map, List.length_map, sizeLine_eq]; omega)]
      simp only [mk_f]
      rw [bnd_ok, s_nil, bnd_ok, bnd_ok, v_tupF]
      rfl
    have cr := call_right (S := S) (v := x.map fun y => y + sh) w hL hn hz hz2 (by rw [List.length_map]; exact lx)
    have wn : (mWhen (mNot (mTru (mCall M__law_picks_right (mCons (mVar 3) (mCons (mCall vTuple (mCons (mLc false [9] (mItems (mVar 7)) (gN 9) (mYes) (mBin vAdd (mVar 9) (mVar 6))) (mNil))) (mNil)))))) (mRet (mC (.bl false))) (mSkip)) [some (.ref 1), b, b2, some (tR L), b4, b5, some (.int sh), some (tI x), b8, b9] S = some (.nx [some (.ref 1), b, b2, some (tR L), b4, b5, some (.int sh), some (tI x), b8, b9], S) := by
      generalize (mCall vTuple (mCons (mLc false [9] (mItems (mVar 7)) (gN 9) (mYes) (mBin vAdd (mVar 9) (mVar 6))) (mNil))) = mt at *
      generalize tI (x.map fun y => y + sh) = u at *
      generalize tI x = v at *
      generalize tR L = r at *
      simp [tu, cr, truD]
    rw [wn, bnd_ok]
    exact ih
theorem loop_six {L : List (List Int)} {n : Nat} (hL : L ≠ []) (hn : ∀ s ∈ L, s.length = n) (hz : n ≤ 900) (hz2 : L.length ≤ 900) {b4 b5 b6 b7 b8 b9 : Option Val} : ∀ (xs : List Val) (o : Option Val) (cells : List Int) (st : Int), cells.length ≤ 60 → ∃ (o' : Option Val) (c' : List Int) (s' : Int), c'.length ≤ 60 ∧
    forL (gN 2) (mWhen (mNot (mTru (mCall M__law_picks_right (mCons (mVar 3) (mCons (mCall vTuple (mCons (mLc false [8] (mRng1 (mCons (mVar 1) (mNil))) (gN 8) (mYes) (mCall M__law_draw (mCons (mVar 0) (mCons (mC (.int 5)) (mNil))))) (mNil))) (mNil)))))) (mRet (mC (.bl false))) (mSkip)) xs [some (.ref 1), some (.int (n : Int)), o, some (tR L), b4, b5, b6, b7, b8, b9] (hs cells st [])
      = some (.nx [some (.ref 1), some (.int (n : Int)), o', some (tR L), b4, b5, b6, b7, b8, b9], hs c' s' [])
  | [], o, cells, st, hc => ⟨o, cells, st, hc, rfl⟩
  | x :: xs, o, cells, st, hc => by
    obtain ⟨s, c1, s1, ls, bs, hc1, d1⟩ := draw_row (m := 5) (by decide) (by decide) hz (o2 := some x) (o3 := some (tR L)) (o4 := b4) (o5 := b5) (o6 := b6) (o7 := b7) (o8 := b8) (o9 := b9) (st := st) hc
    obtain ⟨o', c2, s2, hc2, ih⟩ := loop_six hL hn hz hz2 (b4 := b4) (b5 := b5) (b6 := b6) (b7 := b7) (b8 := b8) (b9 := b9) xs (some x) c1 s1 hc1
    refine ⟨o', c2, s2, hc2, ?_⟩
    rw [for_cons, s_gn, bnd_ok]
    simp only [List.set_cons_succ, List.set_cons_zero]
    have cr := call_right (S := hs c1 s1 []) (v := s) (wfr_nil _ _) hL hn hz hz2 ls
    have wn : (mWhen (mNot (mTru (mCall M__law_picks_right (mCons (mVar 3) (mCons (mCall vTuple (mCons (mLc false [8] (mRng1 (mCons (mVar 1) (mNil))) (gN 8) (mYes) (mCall M__law_draw (mCons (mVar 0) (mCons (mC (.int 5)) (mNil))))) (mNil))) (mNil)))))) (mRet (mC (.bl false))) (mSkip)) [some (.ref 1), some (.int (n : Int)), some x, some (tR L), b4, b5, b6, b7, b8, b9] (hs cells st []) = some (.nx [some (.ref 1), some (.int (n : Int)), some x, some (tR L), b4, b5, b6, b7, b8, b9], hs c1 s1 []) := by
      generalize (mCall vTuple (mCons (mLc false [8] (mRng1 (mCons (mVar 1) (mNil))) (gN 8) (mYes) (mCall M__law_draw (mCons (mVar 0) (mCons (mC (.int 5)) (mNil))))) (mNil))) = mt at *
      generalize tI s = u at *
      generalize tR L = r at *
      generalize hs c1 s1 [] = S1 at *
      generalize hs cells st [] = S at *
      simp [d1, cr, truD]
    rw [wn, bnd_ok]
    exact ih
theorem call_between {n : Nat} {cells : List Int} {st : Int} (h0 : 0 < n) (h3 : n ≤ 3) (hc : cells.length ≤ 60) : ∃ (c' : List Int) (s' : Int), c'.length ≤ 60 ∧ M__law_between_right [.ref 1, .int (n : Int)] (hs cells st []) = some (.bl true, hs c' s' []) := by
  obtain ⟨L, c1, s1, hL, hl, hn, hb, hc1, f1⟩ := draw_few (n := n) (by omega) (st := st) hc
  have w := wfr_nil
  obtain ⟨v, c2, s2, hc2, p1, p2, hd⟩ := call_draw (R := []) (cells := c1) (st := s1) (m := 9) wfr_nil hc1 (by decide) (by decide)
  have ch := call_hull (S := hs c1 s1 []) (w _ _) hL hn (by omega) (by omega)
  have clh := call_lhull (S := hs c1 s1 []) (w _ _) hL hn (by omega) (by omega)
  have rp := repr_tR (S := hs c1 s1 []) (hull_low (n := n) (bnd_few hb) (by decide) (by decide) hL) (fun l hl => by rw [hull_row_len l hl]; omega) (by rw [hull_len]; omega)
  have sf := self_tR (S := hs c1 s1 []) true (hull L n)
  have ca := call_all (S := hs c1 s1 []) (w _ _) (hull_len L n) hull_row_len h0 h3 (fun p hp => by
    rw [show ent (hull L n) 0 p = hullE L 0 p from hull_at h0 hp]
    exact hullE_few hL hn hb h0 hp) (fun p hp => by
    rw [show ent (hull L n) p 0 = hullE L p 0 from hull_at hp h0]
    exact hullE_few hL hn hb hp h0)
  have cr := call_round (cells := c1) (st := s1) hL hn h0 (by omega) (by omega) (far_few hL hn h0 hb)
  rw [← same_few hL hl hn h0 h3 hb] at cr
  have lk : ∀ x ∈ srtL ((allF (hull L n) (n - 1)).filter (keeps (hull L n))), x.length = n := fun x hx => by
    rw [(srtL_perm _).mem_iff] at hx
    exact (((all_mem (L := L) h0).2 x).mp hx).len
  generalize srtL ((allF (hull L n) (n - 1)).filter (keeps (hull L n))) = K at *
  have sk := self_lR (S := hs c1 s1 []) true K
  obtain ⟨o7, f7⟩ := loop_kept (S := hs c2 s2 []) (sh := v - 4) (w _ _) hL hn (by omega) (by omega) (b := some (.int (n : Int))) (b2 := none) (b4 := some (tR (hull L n))) (b5 := some (.fro (K.map tI))) (b8 := none) (b9 := none) K none lk
  obtain ⟨o2, c3, s3, hc3, f8⟩ := loop_six hL hn (by omega) (by omega) (b4 := some (tR (hull L n))) (b5 := some (.fro (K.map tI))) (b6 := some (.int (v - 4))) (b7 := o7) (b8 := none) (b9 := none) ((List.range 6).map fun i => Val.int (i : Nat)) none c2 s2 hc2
  refine ⟨c3, s3, hc3, gen_id0 ?_ rfl (w _ _) refLt_bl⟩
  unfold runB m__law_between_right
  rw [show startE N__law_between_right [.ref 1, .int (n : Int)] = [some (.ref 1), some (.int (n : Int)), none, none, none, none, none, none, none, none] from rfl]
  rw [s_then, f1, bnd_ok]
  simp only []
  have e1 : (mSet (mCall M_hull_rows (mCons (mVar 3) (mNil))) (gN 4)) [some (.ref 1), some (.int (n : Int)), none, some (tR L), none, none, none, none, none, none] (hs c1 s1 []) = some (.nx [some (.ref 1), some (.int (n : Int)), none, some (tR L), some (tR (hull L n)), none, none, none, none, none], hs c1 s1 []) := by
    generalize tR (hull L n) = tr at *
    generalize tR L = tl at *
    generalize hs c1 s1 [] = S at *
    simp [ch]
  rw [s_then, e1, bnd_ok]
  simp only []
  have e2 : (mWhen (mOr (mTest (mBin vNe (mCall vRepr (mCons (mVar 4) (mNil))) (mCall vRepr (mCons (mCall M__law_hull (mCons (mVar 3) (mNil))) (mNil))))) (mTest (mBin vNe (mCall M_hull_rows (mKw [0] mNil (mCons (mVar 3) (mNil)))) (mVar 4)))) (mRet (mC (.bl false))) (mSkip)) [some (.ref 1), some (.int (n : Int)), none, some (tR L), some (tR (hull L n)), none, none, none, none, none] (hs c1 s1 []) = some (.nx [some (.ref 1), some (.int (n : Int)), none, some (tR L), some (tR (hull L n)), none, none, none, none, none], hs c1 s1 []) := by
    generalize tR (hull L n) = tr at *
    generalize tR L = tl at *
    generalize PyData.shown _ = z at rp
    generalize hs c1 s1 [] = S at *
    simp [ch, clh, rp, sf, pick]
  rw [s_then, e2, bnd_ok]
  simp only []
  have e3 : (mSet (mCall M__law_all (mCons (mVar 4) (mNil))) (gN 5)) [some (.ref 1), some (.int (n : Int)), none, some (tR L), some (tR (hull L n)), none, none, none, none, none] (hs c1 s1 []) = some (.nx [some (.ref 1), some (.int (n : Int)), none, some (tR L), some (tR (hull L n)), some (.fro (K.map tI)), none, none, none, none], hs c1 s1 []) := by
    generalize tR (hull L n) = tr at *
    generalize tR L = tl at *
    generalize K.map tI = k at *
    generalize hs c1 s1 [] = S at *
    simp [ca]
  rw [s_then, e3, bnd_ok]
  simp only []
  have e4 : (mWhen (mTest (mBin vNe (mVar 5) (mCall M__law_round (mCons (mVar 3) (mNil))))) (mRet (mC (.bl false))) (mSkip)) [some (.ref 1), some (.int (n : Int)), none, some (tR L), some (tR (hull L n)), some (.fro (K.map tI)), none, none, none, none] (hs c1 s1 []) = some (.nx [some (.ref 1), some (.int (n : Int)), none, some (tR L), some (tR (hull L n)), some (.fro (K.map tI)), none, none, none, none], hs c1 s1 []) := by
    generalize tR (hull L n) = tr at *
    generalize tR L = tl at *
    generalize K.map tI = k at *
    generalize hs c1 s1 [] = S at *
    simp [cr, sk]
  rw [s_then, e4, bnd_ok]
  simp only []
  have e5 : (mSet (mBin vSub (mCall M__law_draw (mCons (mVar 0) (mCons (mC (.int 9)) (mNil)))) (mC (.int 4))) (gN 6)) [some (.ref 1), some (.int (n : Int)), none, some (tR L), some (tR (hull L n)), some (.fro (K.map tI)), none, none, none, none] (hs c1 s1 []) = some (.nx [some (.ref 1), some (.int (n : Int)), none, some (tR L), some (tR (hull L n)), some (.fro (K.map tI)), some (.int (v - 4)), none, none, none], hs c2 s2 []) := by
    simp [hd]
  rw [s_then, e5, bnd_ok]
  simp only []
  rw [s_then, s_for, s_items, s_var]
  simp only [List.getElem?_cons_succ, List.getElem?_cons_zero]
  rw [bnd_ok]
  simp only [fro_f, Option.map_some]
  rw [bnd_ok, f7, bnd_ok]
  simp only []
  rw [s_then, s_for, rng_of (n := 6) (by omega) (by simp), bnd_ok, f8, bnd_ok]
  simp only []
  rw [s_ret, s_c, bnd_ok]
  rfl
end T17
namespace T17
open PySem PySem.Spec PyProof.Rows L2 Fx
/-! ### law -/
noncomputable def mBETW : MS := (mWhen (mNot (mTru (mCall M__law_between_right (mCons (mVar 1) (mCons (mVar 3) (mNil)))))) (mRet (mC (.bl false))) (mSkip))
noncomputable def mMANY : MS := (mWhen (mNot (mTru (mCall M__law_many_right (mCons (mVar 1) (mCons (mVar 3) (mNil)))))) (mRet (mC (.bl false))) (mSkip))
theorem loop_betw {o0 o2 o4 : Option Val} : ∀ (ns : List Nat) (o3 : Option Val) (cells : List Int) (st : Int), (∀ n ∈ ns, 0 < n ∧ n ≤ 3) → cells.length ≤ 60 → ∃ (o3' : Option Val) (c' : List Int) (s' : Int), c'.length ≤ 60 ∧
    forL (gN 3) mBETW (ns.map fun n => Val.int (n : Nat)) [o0, some (.ref 1), o2, o3, o4] (hs cells st []) = some (.nx [o0, some (.ref 1), o2, o3', o4], hs c' s' [])
  | [], o3, cells, st, _, hc => ⟨o3, cells, st, hc, rfl⟩
  | n :: ns, o3, cells, st, h, hc => by
    obtain ⟨h1, h2⟩ := h n (by simp)
    obtain ⟨c1, s1, hc1, hb⟩ := call_between h1 h2 (st := st) hc
    obtain ⟨o3', c2, s2, hc2, ih⟩ := loop_betw (o0 := o0) (o2 := o2) (o4 := o4) ns (some (.int (n : Nat))) c1 s1 (fun m hm => h m (by simp [hm])) hc1
    refine ⟨o3', c2, s2, hc2, ?_⟩
    rw [List.map_cons, for_cons, s_gn, bnd_ok]
    simp only [List.set_cons_succ, List.set_cons_zero]
    have e : mBETW [o0, some (.ref 1), o2, some (.int (n : Nat)), o4] (hs cells st []) = some (.nx [o0, some (.ref 1), o2, some (.int (n : Nat)), o4], hs c1 s1 []) := by
      unfold mBETW
      generalize ((n : Nat) : Int) = k at *
      generalize hs c1 s1 [] = S1 at *
      generalize hs cells st [] = S at *
      simp [hb, truD]
    rw [e, bnd_ok]
    exact ih
theorem loop_many {o0 o2 o4 : Option Val} : ∀ (ns : List Nat) (o3 : Option Val) (cells : List Int) (st : Int), (∀ n ∈ ns, n ≤ 40) → cells.length ≤ 60 → ∃ (o3' : Option Val) (c' : List Int) (s' : Int), c'.length ≤ 60 ∧
    forL (gN 3) mMANY (ns.map fun n => Val.int (n : Nat)) [o0, some (.ref 1), o2, o3, o4] (hs cells st []) = some (.nx [o0, some (.ref 1), o2, o3', o4], hs c' s' [])
  | [], o3, cells, st, _, hc => ⟨o3, cells, st, hc, rfl⟩
  | n :: ns, o3, cells, st, h, hc => by
    have h1 := h n (by simp)
    obtain ⟨c1, s1, hc1, hb⟩ := call_many h1 (st := st) hc
    obtain ⟨o3', c2, s2, hc2, ih⟩ := loop_many (o0 := o0) (o2 := o2) (o4 := o4) ns (some (.int (n : Nat))) c1 s1 (fun m hm => h m (by simp [hm])) hc1
    refine ⟨o3', c2, s2, hc2, ?_⟩
    rw [List.map_cons, for_cons, s_gn, bnd_ok]
    simp only [List.set_cons_succ, List.set_cons_zero]
    have e : mMANY [o0, some (.ref 1), o2, some (.int (n : Nat)), o4] (hs cells st []) = some (.nx [o0, some (.ref 1), o2, some (.int (n : Nat)), o4], hs c1 s1 []) := by
      unfold mMANY
      generalize ((n : Nat) : Int) = k at *
      generalize hs c1 s1 [] = S1 at *
      generalize hs cells st [] = S at *
      simp [hb, truD]
    rw [e, bnd_ok]
    exact ih
theorem pick_nat {ks : List Nat} {cells : List Int} {st : Int} (h0 : 0 < ks.length) (h1 : ks.length < 1000) (hc : cells.length ≤ 60) : ∃ (k : Nat) (c' : List Int) (s' : Int), k ∈ ks ∧ c'.length ≤ 60 ∧ M__law_pick [.ref 1, .fro (ks.map fun n => Val.int (n : Nat))] (hs cells st []) = some (.int (k : Nat), hs c' s' []) := by
  obtain ⟨x, c1, s1, hc1, hx, hp⟩ := call_pick (R := []) (cells := cells) (st := st) (l := ks.map fun n => Val.int (n : Nat)) wfr_nil hc (by simpa using h0) (by rw [List.length_map]; omega) (refLtL_map (fun _ => refLt_int) ks)
  obtain ⟨k, hk, rfl⟩ := List.mem_map.mp hx
  exact ⟨k, c1, s1, hk, hc1, hp⟩
noncomputable def mBODY : MS := (mThen (mFor (mItems (mFro (mCons (mC (.int 3)) (mCons (mCall M__law_pick (mCons (mVar 1) (mCons (mFro (mCons (mC (.int 2)) (mCons (mC (.int 3)) (mCons (mC (.int 1)) (mNil))))) (mNil)))) (mNil))))) (gN 3) mBETW)
 (mFor (mItems (mFro (mCons (mCall M__law_pick (mCons (mVar 1) (mCons (mFro (mCons (mC (.int 4)) (mCons (mC (.int 5)) (mCons (mC (.int 6)) (mCons (mC (.int 8)) (mNil)))))) (mNil)))) (mCons (mCall M__law_pick (mCons (mVar 1) (mCons (mFro (mCons (mC (.int 3)) (mCons (mC (.int 4)) (mCons (mC (.int 2)) (mCons (mC (.int 1)) (mNil)))))) (mNil)))) (mNil))))) (gN 3) mMANY))
theorem run_body {o0 o2 o3 o4 : Option Val} {cells : List Int} {st : Int} (hc : cells.length ≤ 60) : ∃ (o3' : Option Val) (c' : List Int) (s' : Int), c'.length ≤ 60 ∧ mBODY [o0, some (.ref 1), o2, o3, o4] (hs cells st []) = some (.nx [o0, some (.ref 1), o2, o3', o4], hs c' s' []) := by
  have e2 : 2 ≤ sizeLine := by rw [sizeLine_eq]; omega
  have e3 : 3 ≤ sizeLine := by rw [sizeLine_eq]; omega
  have e4 : 4 ≤ sizeLine := by rw [sizeLine_eq]; omega
  obtain ⟨k1, c1, s1, hk1, hc1, p1⟩ := pick_nat (ks := [2, 3, 1]) (st := st) (by decide) (by decide) hc
  obtain ⟨q3, c2, s2, hc2, l1⟩ := loop_betw (o0 := o0) (o2 := o2) (o4 := o4) [3, k1] o3 c1 s1 (fun n hn => by
    simp at hn hk1
    omega) hc1
  obtain ⟨k2, c3, s3, hk2, hc3, p2⟩ := pick_nat (ks := [4, 5, 6, 8]) (st := s2) (by decide) (by decide) hc2
  obtain ⟨k3, c4, s4, hk3, hc4, p3⟩ := pick_nat (ks := [3, 4, 2, 1]) (st := s3) (by decide) (by decide) hc3
  obtain ⟨q3', c5, s5, hc5, l2⟩ := loop_many (o0 := o0) (o2 := o2) (o4 := o4) [k2, k3] q3 c4 s4 (fun n hn => by
    simp at hn hk2 hk3
    omega) hc4
  refine ⟨q3', c5, s5, hc5, ?_⟩
  have i1 : mItems (mFro (mCons (mC (.int 3)) (mCons (mCall M__law_pick (mCons (mVar 1) (mCons (mFro (mCons (mC (.int 2)) (mCons (mC (.int 3)) (mCons (mC (.int 1)) (mNil))))) (mNil)))) (mNil)))) [o0, some (.ref 1), o2, o3, o4] (hs cells st []) = some ([3, k1].map fun n => Val.int (n : Nat), hs c1 s1 []) := by
    simp only [List.map_cons, List.map_nil] at p1 ⊢
    simp at p1 ⊢
    simp [p1, e2, e3]
  have i2 : mItems (mFro (mCons (mCall M__law_pick (mCons (mVar 1) (mCons (mFro (mCons (mC (.int 4)) (mCons (mC (.int 5)) (mCons (mC (.int 6)) (mCons (mC (.int 8)) (mNil)))))) (mNil)))) (mCons (mCall M__law_pick (mCons (mVar 1) (mCons (mFro (mCons (mC (.int 3)) (mCons (mC (.int 4)) (mCons (mC (.int 2)) (mCons (mC (.int 1)) (mNil)))))) (mNil)))) (mNil)))) [o0, some (.ref 1), o2, q3, o4] (hs c2 s2 []) = some ([k2, k3].map fun n => Val.int (n : Nat), hs c4 s4 []) := by
    simp only [List.map_cons, List.map_nil] at p2 p3 ⊢
    simp at p2 p3 ⊢
    simp [p2, p3, e2, e4]
  unfold mBODY
  rw [s_then, s_for, i1, bnd_ok, l1, bnd_ok]
  simp only []
  rw [s_for, i2, bnd_ok, l2]
theorem loop_law {o0 o4 : Option Val} : ∀ (xs : List Val) (o2 o3 : Option Val) (cells : List Int) (st : Int), cells.length ≤ 60 → ∃ (o2' o3' : Option Val) (c' : List Int) (s' : Int), c'.length ≤ 60 ∧ forL (gN 2) mBODY xs [o0, some (.ref 1), o2, o3, o4] (hs cells st []) = some (.nx [o0, some (.ref 1), o2', o3', o4], hs c' s' [])
  | [], o2, o3, cells, st, hc => ⟨o2, o3, cells, st, hc, rfl⟩
  | x :: xs, o2, o3, cells, st, hc => by
    obtain ⟨q3, c1, s1, hc1, hb⟩ := run_body (o0 := o0) (o2 := some x) (o3 := o3) (o4 := o4) (st := st) hc
    obtain ⟨r2, r3, c2, s2, hc2, ih⟩ := loop_law (o0 := o0) (o4 := o4) xs (some x) q3 c1 s1 hc1
    refine ⟨r2, r3, c2, s2, hc2, ?_⟩
    rw [for_cons, s_gn, bnd_ok]
    simp only [List.set_cons_succ, List.set_cons_zero]
    rw [hb, bnd_ok]
    exact ih
def exL : List (List Int) := [[0, 2, 4], [0, 1, 5]]
theorem exL_len : ∀ s ∈ exL, s.length = 3 := by decide
/-- the fixed examples -/
theorem ex_test1 {S : Store} (w : Wf S) {o0 o1 o2 o3 : Option Val} : (mWhen (mOr (mTest (mBin vNe (mCall M_hull_rows (mCons (mVar 4) (mNil))) (mTup (mCons (mTup (mCons (mC (.int 0)) (mCons (mC (.int 1)) (mCons (mC (.int 4)) (mNil))))) (mCons (mTup (mCons (mBin vSub (mC (.int 0)) (mC (.int 2))) (mCons (mC (.int 0)) (mCons (mC (.int 2)) (mNil))))) (mCons (mTup (mCons (mBin vSub (mC (.int 0)) (mC (.int 5))) (mCons (mBin vSub (mC (.int 0)) (mC (.int 4))) (mCons (mC (.int 0)) (mNil))))) (mNil))))))) (mTest (mBin vNe (mCall M_mixture (mCons (mVar 4) (mCons (mTup (mCons (mTup (mCons (mTup (mCons (mC (.int 0)) (mCons (mC (.int 0)) (mNil)))) (mCons (mTup (mCons (mC (.int 1)) (mCons (mC (.int 0)) (mNil)))) (mNil)))) (mCons (mTup (mCons (mTup (mCons (mC (.int 0)) (mCons (mBin vSub (mC (.int 0)) (mC (.int 1))) (mNil)))) (mNil))) (mNil)))) (mNil)))) (mTup (mCons (mC (.int 0)) (mCons (mC (.int 1)) (mCons (mC (.int 4)) (mNil)))))))) (mRet (mC (.bl false))) (mSkip))
    [o0, o1, o2, o3, some (tR exL)] S = some (.nx [o0, o1, o2, o3, some (tR exL)], S) := by
  have e1 : 1 ≤ sizeLine := by rw [sizeLine_eq]; omega
  have e2 : 2 ≤ sizeLine := by rw [sizeLine_eq]; omega
  have e3 : 3 ≤ sizeLine := by rw [sizeLine_eq]; omega
  have ch := call_hull (S := S) (L := exL) (n := 3) w (by decide) exL_len (by omega) (by decide)
  rw [show hull exL 3 = [[0, 1, 4], [-2, 0, 2], [-5, -4, 0]] from ex_hull] at ch
  have P : PkOk exL [[(0, 0), (1, 0)], [(0, -1)]] := pkok_of (fun ps hps => by
    simp at hps
    rcases hps with rfl | rfl
    · exact ⟨by decide, by decide, by decide⟩
    · exact ⟨by decide, by decide, by decide⟩) (by decide) (by decide)
  have cm := call_mixture (S := S) (L := exL) (n := 3) w (by decide) exL_len (by omega) P
  rw [show mix exL 3 [[(0, 0), (1, 0)], [(0, -1)]] = [0, 1, 4] from ex_mix] at cm
  have t1 : (mTup (mCons (mTup (mCons (mC (.int 0)) (mCons (mC (.int 1)) (mCons (mC (.int 4)) (mNil))))) (mCons (mTup (mCons (mBin vSub (mC (.int 0)) (mC (.int 2))) (mCons (mC (.int 0)) (mCons (mC (.int 2)) (mNil))))) (mCons (mTup (mCons (mBin vSub (mC (.int 0)) (mC (.int 5))) (mCons (mBin vSub (mC (.int 0)) (mC (.int 4))) (mCons (mC (.int 0)) (mNil))))) (mNil))))) [o0, o1, o2, o3, some (tR exL)] S = some (tR [[0, 1, 4], [-2, 0, 2], [-5, -4, 0]], S) := by
    generalize tR exL = u
    simp [e3]
    rfl
  have t2 : (mTup (mCons (mTup (mCons (mTup (mCons (mC (.int 0)) (mCons (mC (.int 0)) (mNil)))) (mCons (mTup (mCons (mC (.int 1)) (mCons (mC (.int 0)) (mNil)))) (mNil)))) (mCons (mTup (mCons (mTup (mCons (mC (.int 0)) (mCons (mBin vSub (mC (.int 0)) (mC (.int 1))) (mNil)))) (mNil))) (mNil)))) [o0, o1, o2, o3, some (tR exL)] S = some (picksV [[(0, 0), (1, 0)], [(0, -1)]], S) := by
    generalize tR exL = u
    simp [e1, e2]
    rfl
  have t3 : (mTup (mCons (mC (.int 0)) (mCons (mC (.int 1)) (mCons (mC (.int 4)) (mNil))))) [o0, o1, o2, o3, some (tR exL)] S = some (tI [0, 1, 4], S) := by
    generalize tR exL = u
    simp [e3]
    rfl
  have s1 : vNe (tR [[0, 1, 4], [-2, 0, 2], [-5, -4, 0]]) (tR [[0, 1, 4], [-2, 0, 2], [-5, -4, 0]]) S = some (.bl false, S) := self_tR true _
  have s2 : vNe (tI [0, 1, 4]) (tI [0, 1, 4]) S = some (.bl false, S) := self_tI true _
  rw [s_when, s_or, s_test, s_bin, s_call, s_cons, s_var]
  simp only [List.getElem?_cons_succ, List.getElem?_cons_zero]
  rw [bnd_ok, s_nil, bnd_ok, bnd_ok, ch, bnd_ok, t1, bnd_ok, s1, bnd_ok]
  dsimp only
  rw [bnd_ok, if_neg (by decide), s_test, s_bin, s_call, s_cons, s_var]
  simp only [List.getElem?_cons_succ, List.getElem?_cons_zero]
  rw [bnd_ok, s_cons, t2, bnd_ok, s_nil, bnd_ok, bnd_ok, bnd_ok, cm, bnd_ok, t3, bnd_ok, s2, bnd_ok]
  dsimp only
  rw [bnd_ok, if_neg (by decide), s_skip]
theorem ex_test2 {S : Store} (w : Wf S) {o0 o1 o2 o3 : Option Val} : (mWhen (mOr (mTest (mBin (vIs true) (mCall M_picks_of (mCons (mVar 4) (mCons (mTup (mCons (mC (.int 0)) (mCons (mC (.int 3)) (mCons (mC (.int 4)) (mNil))))) (mNil)))) (mC .non))) (mOr (mTest (mBin (vIs false) (mCall M_picks_of (mCons (mVar 4) (mCons (mTup (mCons (mC (.int 7)) (mCons (mC (.int 8)) (mCons (mC (.int 11)) (mNil))))) (mNil)))) (mC .non))) (mTest (mBin (vIs true) (mCall M_picks_of (mCons (mVar 4) (mCons (mTup (mCons (mC (.int 7)) (mCons (mC (.int 8)) (mCons (mC (.int 10)) (mNil))))) (mNil)))) (mC .non))))) (mRet (mC (.bl false))) (mSkip))
    [o0, o1, o2, o3, some (tR exL)] S = some (.nx [o0, o1, o2, o3, some (tR exL)], S) := by
  have e3 : 3 ≤ sizeLine := by rw [sizeLine_eq]; omega
  have c1 := call_picks (S := S) (L := exL) (n := 3) (v := [0, 3, 4]) w (by decide) exL_len (by omega) (by decide) rfl
  have c2 := call_picks (S := S) (L := exL) (n := 3) (v := [7, 8, 11]) w (by decide) exL_len (by omega) (by decide) rfl
  have c3 := call_picks (S := S) (L := exL) (n := 3) (v := [7, 8, 10]) w (by decide) exL_len (by omega) (by decide) rfl
  rw [show keeps (hull exL 3) [0, 3, 4] = false from ex_k1, if_neg (by decide)] at c1
  rw [show keeps (hull exL 3) [7, 8, 11] = true from ex_k2, if_pos rfl] at c2
  rw [show keeps (hull exL 3) [7, 8, 10] = false from ex_k3, if_neg (by decide)] at c3
  have ni : isNon (picksV (picksOf exL 3 [7, 8, 11])) = false := by unfold picksV; rfl
  generalize picksV (picksOf exL 3 [7, 8, 11]) = pk at *
  unfold tI at c1 c2 c3
  simp only [List.map_cons, List.map_nil] at c1 c2 c3
  generalize tR exL = u at *
  simp [c1, c2, c3, ni, e3]
theorem ex_last {S : Store} (w : Wf S) {env : VEnv} : (mRet (mAndV (mBin vEq (mCall M_hull_rows (mCons (mTup (mCons (mTup (mNil)) (mCons (mTup (mNil)) (mNil)))) (mNil))) (mTup (mNil))) (mAndV (mBin vEq (mCall M_mixture (mCons (mTup (mCons (mTup (mNil)) (mNil))) (mCons (mTup (mCons (mTup (mCons (mTup (mCons (mC (.int 0)) (mCons (mC (.int 4)) (mNil)))) (mNil))) (mNil))) (mNil)))) (mTup (mNil))) (mCall M__law_are_picks (mCons (mTup (mCons (mTup (mNil)) (mNil))) (mCons (mCall M_picks_of (mCons (mTup (mCons (mTup (mNil)) (mNil))) (mCons (mTup (mNil)) (mNil)))) (mNil))))))) env S = some (.rt (.bl true), S) := by
  have e1 : 1 ≤ sizeLine := by rw [sizeLine_eq]; omega
  have e2 : 2 ≤ sizeLine := by rw [sizeLine_eq]; omega
  have ch := call_hull (S := S) (L := [[], []]) (n := 0) w (by decide) (by decide) (by omega) (by decide)
  rw [ex_h0] at ch
  have P : PkOk [[]] [[(0, 4)]] := pkok_of (fun ps hps => by
    simp at hps
    rw [hps]
    exact ⟨by decide, by decide, by decide⟩) (by decide) (by decide)
  have cm := call_mixture (S := S) (L := [[]]) (n := 0) w (by decide) (by decide) (by omega) P
  rw [ex_m0] at cm
  have cp := call_picks (S := S) (L := [[]]) (n := 0) (v := []) w (by decide) (by decide) (by omega) (by decide) rfl
  rw [show keeps (hull [[]] 0) [] = true from by decide +kernel, if_pos rfl] at cp
  have ca := call_are (S := S) w (picks_ok (L := [[]]) (n := 0) (v := []) (by decide) (by omega))
  have s1 := self_tI (S := S) false []
  have z : (tI [] : Val) = .tup [] := rfl
  have z2 : (tR [] : Val) = .tup [] := rfl
  have z3 : (tR [[]] : Val) = .tup [.tup []] := rfl
  have z4 : (tR [[], []] : Val) = .tup [.tup [], .tup []] := rfl
  have z5 : picksV [[(0, 4)]] = .tup [.tup [.tup [.int 0, .int 4]]] := rfl
  rw [z2, z4] at ch
  rw [z3, z5, z] at cm
  rw [z3, z] at cp
  rw [z3] at ca
  rw [z] at s1
  generalize picksV (picksOf [[]] 0 []) = pk at *
  simp [ch, cm, cp, ca, s1, e1, e2]
theorem law_run (ns : List Int) : M_law [.scr (ns.map Val.int)] [] = some (.bl true, []) := by
  obtain ⟨cells, st, hh, hc⟩ := call_heap (ns := ns)
  obtain ⟨k, hk, hrg⟩ : ∃ k : Nat, k ≤ 3 ∧ ∀ S : Store, (mCons (mBin vAdd (mBin vAdd (mC (.int 1)) (mCall vInt (mCons (mBin vGt (mCall vLen (mCons (mVar 0) (mNil))) (mC (.int 0))) (mNil)))) (mCall vInt (mCons (mBin vGt (mCall vLen (mCons (mVar 0) (mNil))) (mC (.int 2))) (mNil)))) (mNil)) [some (.scr (ns.map Val.int)), some (.ref 1), none, none, none] S = some ([.int (k : Int)], S) := by
    by_cases h1 : (0 : Int) < (ns.length : Int)
    · by_cases h2 : (2 : Int) < (ns.length : Int)
      · refine ⟨3, by omega, fun S => ?_⟩
        rw [← List.length_map (f := Val.int)] at h1 h2
        generalize ns.map Val.int = l at *
        simp only [s_cons, s_bin, s_c, s_call, s_var, List.getElem?_cons_zero, bnd_ok, s_nil, v_lenC, v_gtI]
        rw [decide_eq_true h1, decide_eq_true h2]
        simp
      · refine ⟨2, by omega, fun S => ?_⟩
        rw [← List.length_map (f := Val.int)] at h1 h2
        generalize ns.map Val.int = l at *
        simp only [s_cons, s_bin, s_c, s_call, s_var, List.getElem?_cons_zero, bnd_ok, s_nil, v_lenC, v_gtI]
        rw [decide_eq_true h1, decide_eq_false h2]
        simp
    · refine ⟨1, by omega, fun S => ?_⟩
      have h2 : ¬ (2 : Int) < (ns.length : Int) := by omega
      rw [← List.length_map (f := Val.int)] at h1 h2
      generalize ns.map Val.int = l at *
      simp only [s_cons, s_bin, s_c, s_call, s_var, List.getElem?_cons_zero, bnd_ok, s_nil, v_lenC, v_gtI]
      rw [decide_eq_false h1, decide_eq_false h2]
      simp
  obtain ⟨o2, o3, c1, s1, hc1, hl⟩ := loop_law (o0 := some (.scr (ns.map Val.int))) (o4 := none) ((List.range k).map fun i => Val.int (i : Nat)) none none cells st hc
  have w1 := wfr_nil c1 s1
  refine gen_id (S1 := []) (J := hs c1 s1 []) ?_ rfl (fun i c h => by simp at h) refLt_bl
  unfold runB
  rw [show startE N_law [.scr (ns.map Val.int)] = [some (.scr (ns.map Val.int)), none, none, none, none] from rfl]
  have hm : m_law = mThen (mSet (mCall M__law_heap (mCons (mVar 0) (mNil))) (gN 1))
   (mThen (mFor (mRng1 (mCons (mBin vAdd (mBin vAdd (mC (.int 1)) (mCall vInt (mCons (mBin vGt (mCall vLen (mCons (mVar 0) (mNil))) (mC (.int 0))) (mNil)))) (mCall vInt (mCons (mBin vGt (mCall vLen (mCons (mVar 0) (mNil))) (mC (.int 2))) (mNil)))) (mNil))) (gN 2) mBODY)
   (mThen (mSet (mTup (mCons (mTup (mCons (mC (.int 0)) (mCons (mC (.int 2)) (mCons (mC (.int 4)) (mNil))))) (mCons (mTup (mCons (mC (.int 0)) (mCons (mC (.int 1)) (mCons (mC (.int 5)) (mNil))))) (mNil)))) (gN 4))
   (mThen (mWhen (mOr (mTest (mBin vNe (mCall M_hull_rows (mCons (mVar 4) (mNil))) (mTup (mCons (mTup (mCons (mC (.int 0)) (mCons (mC (.int 1)) (mCons (mC (.int 4)) (mNil))))) (mCons (mTup (mCons (mBin vSub (mC (.int 0)) (mC (.int 2))) (mCons (mC (.int 0)) (mCons (mC (.int 2)) (mNil))))) (mCons (mTup (mCons (mBin vSub (mC (.int 0)) (mC (.int 5))) (mCons (mBin vSub (mC (.int 0)) (mC (.int 4))) (mCons (mC (.int 0)) (mNil))))) (mNil))))))) (mTest (mBin vNe (mCall M_mixture (mCons (mVar 4) (mCons (mTup (mCons (mTup (mCons (mTup (mCons (mC (.int 0)) (mCons (mC (.int 0)) (mNil)))) (mCons (mTup (mCons (mC (.int 1)) (mCons (mC (.int 0)) (mNil)))) (mNil)))) (mCons (mTup (mCons (mTup (mCons (mC (.int 0)) (mCons (mBin vSub (mC (.int 0)) (mC (.int 1))) (mNil)))) (mNil))) (mNil)))) (mNil)))) (mTup (mCons (mC (.int 0)) (mCons (mC (.int 1)) (mCons (mC (.int 4)) (mNil)))))))) (mRet (mC (.bl false))) (mSkip))
   (mThen (mWhen (mOr (mTest (mBin (vIs true) (mCall M_picks_of (mCons (mVar 4) (mCons (mTup (mCons (mC (.int 0)) (mCons (mC (.int 3)) (mCons (mC (.int 4)) (mNil))))) (mNil)))) (mC .non))) (mOr (mTest (mBin (vIs false) (mCall M_picks_of (mCons (mVar 4) (mCons (mTup (mCons (mC (.int 7)) (mCons (mC (.int 8)) (mCons (mC (.int 11)) (mNil))))) (mNil)))) (mC .non))) (mTest (mBin (vIs true) (mCall M_picks_of (mCons (mVar 4) (mCons (mTup (mCons (mC (.int 7)) (mCons (mC (.int 8)) (mCons (mC (.int 10)) (mNil))))) (mNil)))) (mC .non))))) (mRet (mC (.bl false))) (mSkip))
   (mRet (mAndV (mBin vEq (mCall M_hull_rows (mCons (mTup (mCons (mTup (mNil)) (mCons (mTup (mNil)) (mNil)))) (mNil))) (mTup (mNil))) (mAndV (mBin vEq (mCall M_mixture (mCons (mTup (mCons (mTup (mNil)) (mNil))) (mCons (mTup (mCons (mTup (mCons (mTup (mCons (mC (.int 0)) (mCons (mC (.int 4)) (mNil)))) (mNil))) (mNil))) (mNil)))) (mTup (mNil))) (mCall M__law_are_picks (mCons (mTup (mCons (mTup (mNil)) (mNil))) (mCons (mCall M_picks_of (mCons (mTup (mCons (mTup (mNil)) (mNil))) (mCons (mTup (mNil)) (mNil)))) (mNil))))))))))) := rfl
  rw [hm]
  have e0 : (mSet (mCall M__law_heap (mCons (mVar 0) (mNil))) (gN 1)) [some (.scr (ns.map Val.int)), none, none, none, none] [] = some (.nx [some (.scr (ns.map Val.int)), some (.ref 1), none, none, none], hs cells st []) := by
    generalize ns.map Val.int = l at *
    simp [hh]
  rw [s_then, e0, bnd_ok]
  simp only []
  rw [s_then, s_for, rng_of (n := k) (by omega) (hrg _), bnd_ok, hl, bnd_ok]
  simp only []
  have e3 : 3 ≤ sizeLine := by rw [sizeLine_eq]; omega
  have e2 : 2 ≤ sizeLine := by rw [sizeLine_eq]; omega
  have ep : (mSet (mTup (mCons (mTup (mCons (mC (.int 0)) (mCons (mC (.int 2)) (mCons (mC (.int 4)) (mNil))))) (mCons (mTup (mCons (mC (.int 0)) (mCons (mC (.int 1)) (mCons (mC (.int 5)) (mNil))))) (mNil)))) (gN 4)) [some (.scr (ns.map Val.int)), some (.ref 1), o2, o3, none] (hs c1 s1 []) = some (.nx [some (.scr (ns.map Val.int)), some (.ref 1), o2, o3, some (tR exL)], hs c1 s1 []) := by
    simp [e2, e3]
    rfl
  rw [s_then, ep, bnd_ok]
  simp only []
  rw [s_then, ex_test1 w1, bnd_ok]
  simp only []
  rw [s_then, ex_test2 w1, bnd_ok]
  simp only []
  rw [ex_last w1]
  rfl
end T17
namespace T17
open PySem PySem.Spec PyProof.Rows L2 Fx
theorem has_is_integer {P : Program} {w : World} {K : Frg} {mg : Str → Option Value} {base : Heap} (T : Top K mg) : Has P w K mg base 1 "is_integer" (topS 1) ["value"] M_is_integer :=
  has_of (N := N_is_integer) (m := m_is_integer) T.d_is_integer sc_is_integer (fun _ _ _ _ _ _ us hl => match us, hl with | [_], _ => rfl) (fun f cdv A outer s H E hr hgd =>
  bi_one (si_ret (ei_and (ei_callB opc_isi (by rfl) T.z_isinstance (by decide +kernel) (ai_cons (ei_v 0) (ai_cons (ei_ty (T := "int") (by rfl) T.z_int (by decide +kernel)) (ai_nil)))) (ei_one (ei_not (ei_callB opc_isi (by rfl) T.z_isinstance (by decide +kernel) (ai_cons (ei_v 0) (ai_cons (ei_ty (T := "bool") (by rfl) T.z_bool (by decide +kernel)) (ai_nil))))))))) ref_gen
theorem has_greater_entry {P : Program} {w : World} {K : Frg} {mg : Str → Option Value} {base : Heap} (T : Top K mg) : Has P w K mg base 1 "greater_entry" (topS 3) ["one", "other"] M_greater_entry :=
  has_of (N := N_greater_entry) (m := m_greater_entry) T.d_greater_entry sc_greater_entry (fun _ _ _ _ _ _ us hl => match us, hl with | [_, _], _ => rfl) (fun f cdv A outer s H E hr hgd =>
  bi_cons (si_if (ti_w (wi_or (ti_cmp op2_is (ei_v 0) (ei_non) (nomark _)) (wi_or1 (ti_cmp op2_is (ei_v 1) (ei_non) (nomark _)))))
 (bi_one (si_ret (ei_if (ti_cmp op2_is (ei_v 0) (ei_non) (nomark _)) (ei_v 1) (ei_v 0))))
 (bi_nil))
 (bi_one (si_ret (ei_callB (opc_max rfl hr.units) (by rfl) T.z_max (by decide +kernel) (ai_cons (ei_v 0) (ai_cons (ei_v 1) (ai_nil))))))) ref_gen
theorem has_summed_entry {P : Program} {w : World} {K : Frg} {mg : Str → Option Value} {base : Heap} (T : Top K mg) : Has P w K mg base 1 "summed_entry" (topS 4) ["one", "other"] M_summed_entry :=
  has_of (N := N_summed_entry) (m := m_summed_entry) T.d_summed_entry sc_summed_entry (fun _ _ _ _ _ _ us hl => match us, hl with | [_, _], _ => rfl) (fun f cdv A outer s H E hr hgd =>
  bi_one (si_ret (ei_if (ti_w (wi_or (ti_cmp op2_is (ei_v 0) (ei_non) (nomark _)) (wi_or1 (ti_cmp op2_is (ei_v 1) (ei_non) (nomark _))))) (ei_non) (ei_op op2_add (ei_v 0) (ei_v 1))))) ref_gen
theorem has_broken_pair {P : Program} {w : World} {K : Frg} {mg : Str → Option Value} {base : Heap} (T : Top K mg) : Has P w K mg base 1 "broken_pair" (topS 5) ["rows", "setting"] M_broken_pair :=
  has_of (N := N_broken_pair) (m := m_broken_pair) T.d_broken_pair sc_broken_pair (fun _ _ _ _ _ _ us hl => match us, hl with | [_, _], _ => rfl) (fun f cdv A outer s H E hr hgd =>
  bi_cons (si_for PassesOwn.never rfl (ii_enumA (by rfl) T.z_enumerate (ai_cons (ei_v 0) (ai_nil))) (gi_t rfl (gsi_cons (gi_n sc_broken_pair.nd rfl (by first | exact Or.inl rfl | exact Or.inr rfl)) (gsi_cons (gi_n sc_broken_pair.nd rfl (by first | exact Or.inl rfl | exact Or.inr rfl)) (gsi_nil))))
 (bi_one (si_for PassesOwn.never rfl (ii_enumA (by rfl) T.z_enumerate (ai_cons (ei_v 3) (ai_nil))) (gi_t rfl (gsi_cons (gi_n sc_broken_pair.nd rfl (by first | exact Or.inl rfl | exact Or.inr rfl)) (gsi_cons (gi_n sc_broken_pair.nd rfl (by first | exact Or.inl rfl | exact Or.inr rfl)) (gsi_nil))))
 (bi_one (si_if (ti_w (wi_and (ti_cmp op2_isnot (ei_v 5) (ei_non) (nomark _)) (wi_and1 (ti_cmp op2_lt (ei_op op2_sub (ei_ix (ei_v 1) (ei_v 4)) (ei_ix (ei_v 1) (ei_v 2))) (ei_v 5) (nomark _)))))
 (bi_one (si_ret (ei_tup (ai_cons (ei_v 2) (ai_cons (ei_v 4) (ai_nil))))))
 (bi_nil))))))
 (bi_one (si_ret (ei_non)))) ref_gen
theorem has_is_setting {P : Program} {w : World} {K : Frg} {mg : Str → Option Value} {base : Heap} (T : Top K mg) (h_is_integer : Has P w K mg base 1 "is_integer" (topS 1) ["value"] M_is_integer) (h_broken_pair : Has P w K mg base 1 "broken_pair" (topS 5) ["rows", "setting"] M_broken_pair) : Has P w K mg base 2 "is_setting" (topS 6) ["rows", "value"] M_is_setting :=
  has_of (N := N_is_setting) (m := m_is_setting) T.d_is_setting sc_is_setting (fun _ _ _ _ _ _ us hl => match us, hl with | [_, _], _ => rfl) (fun f cdv A outer s H E hr hgd =>
  bi_cons (si_if (ti_w (wi_or (ti_not (ti_tru (ei_callB opc_isi (by rfl) T.z_isinstance (by decide +kernel) (ai_cons (ei_v 1) (ai_cons (ei_ty (T := "tuple") (by rfl) T.z_tuple (by decide +kernel)) (ai_nil)))))) (wi_or (ti_cmp (op2_ne hr.units) (ei_callB opc_len (by rfl) T.z_len (by decide +kernel) (ai_cons (ei_v 1) (ai_nil))) (ei_callB opc_len (by rfl) T.z_len (by decide +kernel) (ai_cons (ei_v 0) (ai_nil))) (nomark _)) (wi_or1 (ti_not (ti_tru (ei_callB (opc_all rfl) (by rfl) T.z_all (by decide +kernel) (ai_cons (ei_lc false (own := [("item", 2)]) rfl sc_is_setting.nd (ii_v (ei_v 1)) (blkOk_by (own := [("item", 2)]) (N := N_is_setting) (sc := defScope (topS 6)) (by decide +kernel)) (fun _ _ _ _ _ => gi_n sc_is_setting.nd rfl (by first | exact Or.inl rfl | exact Or.inr rfl)) (fun _ _ _ _ _ => tsi_nil) (fun _ _ _ _ _ => ei_has h_is_integer hr (by decide) hgd (by rfl) (ai_cons (ei_v 2) (ai_nil)) (len_cons len_nil)) (by decide)) (ai_nil)))))))))
 (bi_one (si_ret (ei_bl)))
 (bi_nil))
 (bi_one (si_ret (ei_cmp op2_is (ei_has h_broken_pair hr (by decide) hgd (by rfl) (ai_cons (ei_v 0) (ai_cons (ei_v 1) (ai_nil))) (len_cons (len_cons len_nil))) (ei_non) (nomark _))))) ref_gen
theorem has_heaviest {P : Program} {w : World} {K : Frg} {mg : Str → Option Value} {base : Heap} (T : Top K mg) (h_greater_entry : Has P w K mg base 1 "greater_entry" (topS 3) ["one", "other"] M_greater_entry) (h_summed_entry : Has P w K mg base 1 "summed_entry" (topS 4) ["one", "other"] M_summed_entry) : Has P w K mg base 2 "heaviest" (topS 7) ["rows"] M_heaviest :=
  has_of (N := N_heaviest) (m := m_heaviest) T.d_heaviest sc_heaviest (fun _ _ _ _ _ _ us hl => match us, hl with | [_], _ => rfl) (fun f cdv A outer s H E hr hgd =>
  bi_cons (si_setLc true (own := [("row", 7)]) (i := 1) rfl sc_heaviest.nd rfl rfl (sw_true rfl rfl rfl (by decide +kernel)) (ii_v (ei_v 0)) (blkOk_by (own := [("row", 7)]) (N := N_heaviest) (sc := defScope (topS 7)) (by decide +kernel)) (fun _ _ _ _ _ => gi_n sc_heaviest.nd rfl (by first | exact Or.inl rfl | exact Or.inr rfl)) (fun _ _ _ _ _ => tsi_nil) (fun _ _ _ _ _ => ei_callT (opc_list true) (by rfl) T.z_list (by decide +kernel) (ai_cons (ei_v 7) (ai_nil))) (by decide))
 (bi_cons (si_for PassesOwn.never rfl (ii_rng1 (by rfl) T.z_range (ai_cons (ei_callB opc_len (by rfl) T.z_len (by decide +kernel) (ai_cons (ei_v 0) (ai_nil))) (ai_nil))) (gi_n sc_heaviest.nd rfl (by first | exact Or.inl rfl | exact Or.inr rfl))
 (bi_one (si_asg (ei_has h_greater_entry hr (by decide) hgd (by rfl) (ai_cons (ei_ix (ei_ix (ei_v 1) (ei_v 2)) (ei_v 2)) (ai_cons (ei_int) (ai_nil))) (len_cons (len_cons len_nil))) (gi_ix (ei_ix (ei_v 1) (ei_v 2)) (ei_v 2)))))
 (bi_cons (si_for PassesOwn.never rfl (ii_rng1 (by rfl) T.z_range (ai_cons (ei_callB opc_len (by rfl) T.z_len (by decide +kernel) (ai_cons (ei_v 0) (ai_nil))) (ai_nil))) (gi_n sc_heaviest.nd rfl (by first | exact Or.inl rfl | exact Or.inr rfl))
 (bi_cons (si_if (ti_cmp op2_gt (ei_ix (ei_ix (ei_v 1) (ei_v 3)) (ei_v 3)) (ei_int) (nomark _))
 (bi_one (si_ret (ei_non)))
 (bi_nil))
 (bi_one (si_for PassesOwn.never rfl (ii_rng1 (by rfl) T.z_range (ai_cons (ei_callB opc_len (by rfl) T.z_len (by decide +kernel) (ai_cons (ei_v 0) (ai_nil))) (ai_nil))) (gi_n sc_heaviest.nd rfl (by first | exact Or.inl rfl | exact Or.inr rfl))
 (bi_cons (si_set (i := 5) sc_heaviest.nd rfl (.inr rfl) (ei_ix (ei_ix (ei_v 1) (ei_v 4)) (ei_v 3)))
 (bi_one (si_if (ti_cmp op2_isnot (ei_v 5) (ei_non) (nomark _))
 (bi_cons (si_setLcG false (own := [("entry", 8)]) (i := 6) rfl sc_heaviest.nd rfl rfl (sw_true rfl rfl rfl (by decide +kernel)) (ii_vG (ei_ix (ei_v 1) (ei_v 3))) (blkOk_by (own := [("entry", 8)]) (N := N_heaviest) (sc := defScope (topS 7)) (by decide +kernel)) (fun _ _ _ _ _ => gi_n sc_heaviest.nd rfl (by first | exact Or.inl rfl | exact Or.inr rfl)) (fun _ _ _ _ _ => tsi_nil) (fun _ _ _ _ _ => ei_has h_summed_entry hr (by decide) hgd (by rfl) (ai_cons (ei_v 5) (ai_cons (ei_v 8) (ai_nil))) (len_cons (len_cons len_nil))) (by decide))
 (bi_one (si_asg (ei_lcG false (own := [("entry", 8), ("more", 9)]) rfl sc_heaviest.nd (ii_zipG (by rfl) T.z_zip (ai_cons (ei_ix (ei_v 1) (ei_v 4)) (ai_cons (ei_v 6) (ai_nil)))) (blkOk_by (own := [("entry", 8), ("more", 9)]) (N := N_heaviest) (sc := defScope (topS 7)) (by decide +kernel)) (fun _ _ _ _ _ => gi_t rfl (gsi_cons (gi_n sc_heaviest.nd rfl (by first | exact Or.inl rfl | exact Or.inr rfl)) (gsi_cons (gi_n sc_heaviest.nd rfl (by first | exact Or.inl rfl | exact Or.inr rfl)) (gsi_nil)))) (fun _ _ _ _ _ => tsi_nil) (fun _ _ _ _ _ => ei_has h_greater_entry hr (by decide) hgd (by rfl) (ai_cons (ei_v 8) (ai_cons (ei_v 9) (ai_nil))) (len_cons (len_cons len_nil))) (by decide)) (gi_ix (ei_v 1) (ei_v 4)))))
 (bi_nil))))))))
 (bi_one (si_ret (ei_callT opc_tuple (by rfl) T.z_tuple (by decide +kernel) (ai_cons (ei_lcG false (own := [("row", 7)]) rfl sc_heaviest.nd (ii_vG (ei_v 1)) (blkOk_by (own := [("row", 7)]) (N := N_heaviest) (sc := defScope (topS 7)) (by decide +kernel)) (fun _ _ _ _ _ => gi_n sc_heaviest.nd rfl (by first | exact Or.inl rfl | exact Or.inr rfl)) (fun _ _ _ _ _ => tsi_nil) (fun _ _ _ _ _ => ei_callT opc_tuple (by rfl) T.z_tuple (by decide +kernel) (ai_cons (ei_v 7) (ai_nil))) (by decide)) (ai_nil)))))))) ref_gen
theorem has_hull_rows {P : Program} {w : World} {K : Frg} {mg : Str → Option Value} {base : Heap} (T : Top K mg) : Has P w K mg base 1 "hull_rows" (topS 9) ["settings"] M_hull_rows :=
  has_of (N := N_hull_rows) (m := m_hull_rows) T.d_hull_rows sc_hull_rows (fun _ _ _ _ _ _ us hl => match us, hl with | [_], _ => rfl) (fun f cdv A outer s H E hr hgd =>
  bi_cons (si_set (i := 1) sc_hull_rows.nd rfl (.inr rfl) (ei_listRg1 false rfl (by rfl) T.z_list (by rfl) T.z_range (ei_callB opc_len (by rfl) T.z_len (by decide +kernel) (ai_cons (ei_ix (ei_v 0) (ei_int)) (ai_nil)))))
 (bi_one (si_ret (ei_callT opc_tuple (by rfl) T.z_tuple (by decide +kernel) (ai_cons (ei_lc false (own := [("at", 2)]) rfl sc_hull_rows.nd (ii_v (ei_v 1)) (blkOk_by (own := [("at", 2)]) (N := N_hull_rows) (sc := defScope (topS 9)) (by decide +kernel)) (fun _ _ _ _ _ => gi_n sc_hull_rows.nd rfl (by first | exact Or.inl rfl | exact Or.inr rfl)) (fun _ _ _ _ _ => tsi_nil) (fun _ _ _ _ _ => ei_callT opc_tuple (by rfl) T.z_tuple (by decide +kernel) (ai_cons (ei_lc false (own := [("to", 3)]) rfl sc_hull_rows.nd (ii_v (ei_v 1)) (blkOk_by (own := [("to", 3)]) (N := N_hull_rows) (by kernel_rfl)) (fun _ _ _ _ _ => gi_n sc_hull_rows.nd rfl (by first | exact Or.inl rfl | exact Or.inr rfl)) (fun _ _ _ _ _ => tsi_nil) (fun _ _ _ _ _ => ei_callB (opc_min rfl hr.units) (by rfl) T.z_min (by decide +kernel) (ai_cons (ei_lc false (own := [("some", 4)]) rfl sc_hull_rows.nd (ii_v (ei_v 0)) (blkOk_by (own := [("some", 4)]) (N := N_hull_rows) (by kernel_rfl)) (fun _ _ _ _ _ => gi_n sc_hull_rows.nd rfl (by first | exact Or.inl rfl | exact Or.inr rfl)) (fun _ _ _ _ _ => tsi_nil) (fun _ _ _ _ _ => ei_op op2_sub (ei_ix (ei_v 4) (ei_v 3)) (ei_ix (ei_v 4) (ei_v 2))) (by decide)) (ai_nil))) (by decide)) (ai_nil))) (by decide)) (ai_nil)))))) ref_gen
theorem has_mixture {P : Program} {w : World} {K : Frg} {mg : Str → Option Value} {base : Heap} (T : Top K mg) : Has P w K mg base 1 "mixture" (topS 10) ["settings", "picks"] M_mixture :=
  has_of (N := N_mixture) (m := m_mixture) T.d_mixture sc_mixture (fun _ _ _ _ _ _ us hl => match us, hl with | [_, _], _ => rfl) (fun f cdv A outer s H E hr hgd =>
  bi_cons (si_set (i := 2) sc_mixture.nd rfl (.inl rfl) (ei_lst (ai_nil)))
 (bi_cons (si_for PassesOwn.never rfl (ii_rng1 (by rfl) T.z_range (ai_cons (ei_callB opc_len (by rfl) T.z_len (by decide +kernel) (ai_cons (ei_ix (ei_v 0) (ei_int)) (ai_nil))) (ai_nil))) (gi_n sc_mixture.nd rfl (by first | exact Or.inl rfl | exact Or.inr rfl))
 (bi_one (si_expr (ei_bm PySem.F.plainAttrs_list PySem.F.slot_list_append PySem.F.type_list_append opm_append (ei_v 2) (ai_cons (ei_callB (opc_max rfl hr.units) (by rfl) T.z_max (by decide +kernel) (ai_cons (ei_lc false (own := [("pairs", 4)]) rfl sc_mixture.nd (ii_v (ei_v 1)) (blkOk_by (own := [("pairs", 4)]) (N := N_mixture) (sc := defScope (topS 10)) (by decide +kernel)) (fun _ _ _ _ _ => gi_n sc_mixture.nd rfl (by first | exact Or.inl rfl | exact Or.inr rfl)) (fun _ _ _ _ _ => tsi_nil) (fun _ _ _ _ _ => ei_callB (opc_min rfl hr.units) (by rfl) T.z_min (by decide +kernel) (ai_cons (ei_lc false (own := [("number", 5), ("shift", 6)]) rfl sc_mixture.nd (ii_v (ei_v 4)) (blkOk_by (own := [("number", 5), ("shift", 6)]) (N := N_mixture) (by kernel_rfl)) (fun _ _ _ _ _ => gi_t rfl (gsi_cons (gi_n sc_mixture.nd rfl (by first | exact Or.inl rfl | exact Or.inr rfl)) (gsi_cons (gi_n sc_mixture.nd rfl (by first | exact Or.inl rfl | exact Or.inr rfl)) (gsi_nil)))) (fun _ _ _ _ _ => tsi_nil) (fun _ _ _ _ _ => ei_op op2_add (ei_ix (ei_ix (ei_v 0) (ei_v 5)) (ei_v 3)) (ei_v 6)) (by decide)) (ai_nil))) (by decide)) (ai_nil))) (ai_nil))))))
 (bi_one (si_ret (ei_callT opc_tuple (by rfl) T.z_tuple (by decide +kernel) (ai_cons (ei_v 2) (ai_nil))))))) ref_gen
theorem has_nearest_to {P : Program} {w : World} {K : Frg} {mg : Str → Option Value} {base : Heap} (T : Top K mg) : Has P w K mg base 1 "nearest_to" (topS 11) ["settings", "one", "other"] M_nearest_to :=
  has_of (N := N_nearest_to) (m := m_nearest_to) T.d_nearest_to sc_nearest_to (fun _ _ _ _ _ _ us hl => match us, hl with | [_, _, _], _ => rfl) (fun f cdv A outer s H E hr hgd =>
  bi_cons (si_setLc false (own := [("some", 4)]) (i := 3) rfl sc_nearest_to.nd rfl rfl (sw_true rfl rfl rfl (by decide +kernel)) (ii_v (ei_v 0)) (blkOk_by (own := [("some", 4)]) (N := N_nearest_to) (sc := defScope (topS 11)) (by decide +kernel)) (fun _ _ _ _ _ => gi_n sc_nearest_to.nd rfl (by first | exact Or.inl rfl | exact Or.inr rfl)) (fun _ _ _ _ _ => tsi_nil) (fun _ _ _ _ _ => ei_op op2_sub (ei_ix (ei_v 4) (ei_v 2)) (ei_ix (ei_v 4) (ei_v 1))) (by decide))
 (bi_one (si_ret (ei_bm PySem.F.plainAttrs_list PySem.F.slot_list_index PySem.F.type_list_index opm_index (ei_v 3) (ai_cons (ei_callB (opc_min rfl hr.units) (by rfl) T.z_min (by decide +kernel) (ai_cons (ei_v 3) (ai_nil))) (ai_nil)))))) ref_gen
theorem has_picks_of {P : Program} {w : World} {K : Frg} {mg : Str → Option Value} {base : Heap} (T : Top K mg) (h_hull_rows : Has P w K mg base 1 "hull_rows" (topS 9) ["settings"] M_hull_rows) (h_is_setting : Has P w K mg base 2 "is_setting" (topS 6) ["rows", "value"] M_is_setting) (h_nearest_to : Has P w K mg base 1 "nearest_to" (topS 11) ["settings", "one", "other"] M_nearest_to) : Has P w K mg base 3 "picks_of" (topS 12) ["settings", "value"] M_picks_of :=
  has_of (N := N_picks_of) (m := m_picks_of) T.d_picks_of sc_picks_of (fun _ _ _ _ _ _ us hl => match us, hl with | [_, _], _ => rfl) (fun f cdv A outer s H E hr hgd =>
  bi_cons (si_if (ti_not (ti_tru (ei_has h_is_setting hr (by decide) hgd (by rfl) (ai_cons (ei_has h_hull_rows hr (by decide) hgd (by rfl) (ai_cons (ei_v 0) (ai_nil)) (len_cons len_nil)) (ai_cons (ei_v 1) (ai_nil))) (len_cons (len_cons len_nil)))))
 (bi_one (si_ret (ei_non)))
 (bi_nil))
 (bi_cons (si_set (i := 2) sc_picks_of.nd rfl (.inl rfl) (ei_lst (ai_nil)))
 (bi_cons (si_for PassesOwn.never rfl (ii_rng1 (by rfl) T.z_range (ai_cons (ei_callB opc_len (by rfl) T.z_len (by decide +kernel) (ai_cons (ei_v 1) (ai_nil))) (ai_nil))) (gi_n sc_picks_of.nd rfl (by first | exact Or.inl rfl | exact Or.inr rfl))
 (bi_cons (si_setLc false (own := [("other", 5)]) (i := 4) rfl sc_picks_of.nd rfl rfl (sw_true rfl rfl rfl (by decide +kernel)) (ii_rng1 (by rfl) T.z_range (ai_cons (ei_callB opc_len (by rfl) T.z_len (by decide +kernel) (ai_cons (ei_v 1) (ai_nil))) (ai_nil))) (blkOk_by (own := [("other", 5)]) (N := N_picks_of) (sc := defScope (topS 12)) (by decide +kernel)) (fun _ _ _ _ _ => gi_n sc_picks_of.nd rfl (by first | exact Or.inl rfl | exact Or.inr rfl)) (fun _ _ _ _ _ => tsi_nil) (fun _ _ _ _ _ => ei_has h_nearest_to hr (by decide) hgd (by rfl) (ai_cons (ei_v 0) (ai_cons (ei_v 3) (ai_cons (ei_v 5) (ai_nil)))) (len_cons (len_cons (len_cons len_nil)))) (by decide))
 (bi_one (si_expr (ei_bm PySem.F.plainAttrs_list PySem.F.slot_list_append PySem.F.type_list_append opm_append (ei_v 2) (ai_cons (ei_callT opc_tuple (by rfl) T.z_tuple (by decide +kernel) (ai_cons (ei_lc false (own := [("number", 6)]) rfl sc_picks_of.nd (ii_v (ei_v 4)) (blkOk_by (own := [("number", 6)]) (N := N_picks_of) (sc := defScope (topS 12)) (by decide +kernel)) (fun _ _ _ _ _ => gi_n sc_picks_of.nd rfl (by first | exact Or.inl rfl | exact Or.inr rfl)) (fun _ _ _ _ _ => tsi_nil) (fun _ _ _ _ _ => ei_tup (ai_cons (ei_v 6) (ai_cons (ei_op op2_sub (ei_ix (ei_v 1) (ei_v 3)) (ei_ix (ei_ix (ei_v 0) (ei_v 6)) (ei_v 3))) (ai_nil)))) (by decide)) (ai_nil))) (ai_nil)))))))
 (bi_one (si_ret (ei_if (ti_cmp (op2_ne hr.units) (ei_v 2) (ei_fro (ai_nil)) (nomark _)) (ei_callT opc_tuple (by rfl) T.z_tuple (by decide +kernel) (ai_cons (ei_v 2) (ai_nil))) (ei_tup (ai_cons (ei_tup (ai_cons (ei_tup (ai_cons (ei_int) (ai_cons (ei_int) (ai_nil)))) (ai_nil))) (ai_nil))))))))) ref_gen
theorem has__law_heap {P : Program} {w : World} {K : Frg} {mg : Str → Option Value} {base : Heap} (T : Top K mg) : Has P w K mg base 1 "_law_heap" (topS 14) ["script"] M__law_heap :=
  has_of (N := N__law_heap) (m := m__law_heap) T.d__law_heap sc__law_heap (fun _ _ _ _ _ _ us hl => match us, hl with | [_], _ => rfl) (fun f cdv A outer s H E hr hgd =>
  bi_cons (si_par (i := 2) (j := 3) rfl sc__law_heap.nd rfl rfl (by decide) rfl rfl (ai_cons (ei_lc false (own := [("cell", 1)]) rfl sc__law_heap.nd (ii_v (ei_sl false (ei_v 0) (oi_none) (oi_some (ei_int)))) (blkOk_by (own := [("cell", 1)]) (N := N__law_heap) (sc := defScope (topS 14)) (by decide +kernel)) (fun _ _ _ _ _ => gi_n sc__law_heap.nd rfl (by first | exact Or.inl rfl | exact Or.inr rfl)) (fun _ _ _ _ _ => tsi_nil) (fun _ _ _ _ _ => ei_op op2_add (ei_op op2_mul (ei_int) (ei_callB opc_abs (by rfl) T.z_abs (by decide +kernel) (ai_cons (ei_v 1) (ai_nil)))) (ei_callT opc_int (by rfl) T.z_int (by decide +kernel) (ai_cons (ei_cmp op2_lt (ei_v 1) (ei_int) (nomark _)) (ai_nil)))) (by decide)) (ai_cons (ei_int) (ai_nil))) (by rfl))
 (bi_cons (si_for PassesOwn.never rfl (ii_v (ei_v 2)) (gi_n sc__law_heap.nd rfl (by first | exact Or.inl rfl | exact Or.inr rfl))
 (bi_one (si_set (i := 3) sc__law_heap.nd rfl (.inl rfl) (ei_op op2_mod (ei_callT opc_int (by rfl) T.z_int (by decide +kernel) (ai_cons (ei_op op2_add (ei_op op2_add (ei_op op2_mul (ei_v 3) (ei_int)) (ei_op op2_mod (ei_callT opc_int (by rfl) T.z_int (by decide +kernel) (ai_cons (ei_v 1) (ai_nil))) (ei_int))) (ei_int)) (ai_nil))) (ei_int)))))
 (bi_one (si_ret (ei_lst (ai_cons (ei_rev true (ei_lc false (own := [("cell", 1)]) rfl sc__law_heap.nd (ii_v (ei_v 2)) (blkOk_by (own := [("cell", 1)]) (N := N__law_heap) (sc := defScope (topS 14)) (by decide +kernel)) (fun _ _ _ _ _ => gi_n sc__law_heap.nd rfl (by first | exact Or.inl rfl | exact Or.inr rfl)) (fun _ _ _ _ _ => tsi_one (ti_cmp op2_ge (ei_v 1) (ei_op op2_pow (ei_int) (ei_int)) (nomark _))) (fun _ _ _ _ _ => ei_v 1) (by decide))) (ai_cons (ei_v 3) (ai_nil)))))))) ref_gen
theorem has__law_draw {P : Program} {w : World} {K : Frg} {mg : Str → Option Value} {base : Heap} (T : Top K mg) : Has P w K mg base 1 "_law_draw" (topS 15) ["heap", "many"] M__law_draw :=
  has_of (N := N__law_draw) (m := m__law_draw) T.d__law_draw sc__law_draw (fun _ _ _ _ _ _ us hl => match us, hl with | [_, _], _ => rfl) (fun f cdv A outer s H E hr hgd =>
  bi_cons (si_while PassesOwn.never (ti_w (wi_and (ti_cmp (op2_ne hr.units) (ei_ix (ei_v 0) (ei_int)) (ei_fro (ai_nil)) (nomark _)) (wi_and1 (ti_cmp (op2_eq hr.units) (ei_ix (ei_ix (ei_v 0) (ei_int)) (ei_un op1_neg (ei_int))) (ei_int) (nomark _)))))
 (bi_one (si_expr (ei_bm0 PySem.F.plainAttrs_list PySem.F.slot_list_pop PySem.F.type_list_pop opm_pop (ei_ix (ei_v 0) (ei_int))))))
 (bi_cons (si_if (ti_cmp (op2_ne hr.units) (ei_ix (ei_v 0) (ei_int)) (ei_fro (ai_nil)) (nomark _))
 (bi_cons (si_set (i := 2) sc__law_draw.nd rfl (.inl rfl) (ei_bm0 PySem.F.plainAttrs_list PySem.F.slot_list_pop PySem.F.type_list_pop opm_pop (ei_ix (ei_v 0) (ei_int))))
 (bi_cons (si_expr (ei_bm PySem.F.plainAttrs_list PySem.F.slot_list_append PySem.F.type_list_append opm_append (ei_ix (ei_v 0) (ei_int)) (ai_cons (ei_op op2_divW (ei_v 2) (ei_v 1)) (ai_nil))))
 (bi_one (si_ret (ei_op op2_mod (ei_callT opc_int (by rfl) T.z_int (by decide +kernel) (ai_cons (ei_v 2) (ai_nil))) (ei_v 1))))))
 (bi_nil))
 (bi_cons (si_asg (ei_op op2_mod (ei_callT opc_int (by rfl) T.z_int (by decide +kernel) (ai_cons (ei_op op2_add (ei_op op2_mul (ei_ix (ei_v 0) (ei_int)) (ei_int)) (ei_int)) (ai_nil))) (ei_int)) (gi_ix (ei_v 0) (ei_int)))
 (bi_one (si_ret (ei_op op2_mod (ei_callT opc_int (by rfl) T.z_int (by decide +kernel) (ai_cons (ei_op op2_divW (ei_ix (ei_v 0) (ei_int)) (ei_int)) (ai_nil))) (ei_v 1))))))) ref_gen
theorem has__law_pick {P : Program} {w : World} {K : Frg} {mg : Str → Option Value} {base : Heap} (T : Top K mg) (h__law_draw : Has P w K mg base 1 "_law_draw" (topS 15) ["heap", "many"] M__law_draw) : Has P w K mg base 2 "_law_pick" (topS 16) ["heap", "some"] M__law_pick :=
  has_of (N := N__law_pick) (m := m__law_pick) T.d__law_pick sc__law_pick (fun _ _ _ _ _ _ us hl => match us, hl with | [_, _], _ => rfl) (fun f cdv A outer s H E hr hgd =>
  bi_one (si_ret (ei_ix (ei_v 1) (ei_has h__law_draw hr (by decide) hgd (by rfl) (ai_cons (ei_v 0) (ai_cons (ei_callB opc_len (by rfl) T.z_len (by decide +kernel) (ai_cons (ei_v 1) (ai_nil))) (ai_nil))) (len_cons (len_cons len_nil)))))) ref_gen
theorem has__law_hull {P : Program} {w : World} {K : Frg} {mg : Str → Option Value} {base : Heap} (T : Top K mg) : Has P w K mg base 1 "_law_hull" (topS 18) ["settings"] M__law_hull :=
  has_of (N := N__law_hull) (m := m__law_hull) T.d__law_hull sc__law_hull (fun _ _ _ _ _ _ us hl => match us, hl with | [_], _ => rfl) (fun f cdv A outer s H E hr hgd =>
  bi_cons (si_set (i := 1) sc__law_hull.nd rfl (.inr rfl) (ei_listRg1 false rfl (by rfl) T.z_list (by rfl) T.z_range (ei_callB opc_len (by rfl) T.z_len (by decide +kernel) (ai_cons (ei_ix (ei_v 0) (ei_int)) (ai_nil)))))
 (bi_one (si_ret (ei_callT opc_tuple (by rfl) T.z_tuple (by decide +kernel) (ai_cons (ei_lc false (own := [("at", 2)]) rfl sc__law_hull.nd (ii_v (ei_v 1)) (blkOk_by (own := [("at", 2)]) (N := N__law_hull) (sc := defScope (topS 18)) (by decide +kernel)) (fun _ _ _ _ _ => gi_n sc__law_hull.nd rfl (by first | exact Or.inl rfl | exact Or.inr rfl)) (fun _ _ _ _ _ => tsi_nil) (fun _ _ _ _ _ => ei_callT opc_tuple (by rfl) T.z_tuple (by decide +kernel) (ai_cons (ei_lc false (own := [("to", 3)]) rfl sc__law_hull.nd (ii_v (ei_v 1)) (blkOk_by (own := [("to", 3)]) (N := N__law_hull) (by kernel_rfl)) (fun _ _ _ _ _ => gi_n sc__law_hull.nd rfl (by first | exact Or.inl rfl | exact Or.inr rfl)) (fun _ _ _ _ _ => tsi_nil) (fun _ _ _ _ _ => ei_callB (opc_min rfl hr.units) (by rfl) T.z_min (by decide +kernel) (ai_cons (ei_lcG false (own := [("some", 4)]) rfl sc__law_hull.nd (ii_vG (ei_v 0)) (blkOk_by (own := [("some", 4)]) (N := N__law_hull) (by kernel_rfl)) (fun _ _ _ _ _ => gi_n sc__law_hull.nd rfl (by first | exact Or.inl rfl | exact Or.inr rfl)) (fun _ _ _ _ _ => tsi_nil) (fun _ _ _ _ _ => ei_op op2_sub (ei_ix (ei_v 4) (ei_v 3)) (ei_ix (ei_v 4) (ei_v 2))) (by decide)) (ai_nil))) (by decide)) (ai_nil))) (by decide)) (ai_nil)))))) ref_gen
theorem has__law_keeps {P : Program} {w : World} {K : Frg} {mg : Str → Option Value} {base : Heap} (T : Top K mg) : Has P w K mg base 1 "_law_keeps" (topS 19) ["rows", "setting"] M__law_keeps :=
  has_of (N := N__law_keeps) (m := m__law_keeps) T.d__law_keeps sc__law_keeps (fun _ _ _ _ _ _ us hl => match us, hl with | [_, _], _ => rfl) (fun f cdv A outer s H E hr hgd =>
  bi_cons (si_for PassesOwn.never rfl (ii_enumA (by rfl) T.z_enumerate (ai_cons (ei_v 0) (ai_nil))) (gi_t rfl (gsi_cons (gi_n sc__law_keeps.nd rfl (by first | exact Or.inl rfl | exact Or.inr rfl)) (gsi_cons (gi_n sc__law_keeps.nd rfl (by first | exact Or.inl rfl | exact Or.inr rfl)) (gsi_nil))))
 (bi_one (si_if (ti_not (ti_tru (ei_callB (opc_all rfl) (by rfl) T.z_all (by decide +kernel) (ai_cons (ei_lc false (own := [("other", 4), ("entry", 5)]) rfl sc__law_keeps.nd (ii_enumA (by rfl) T.z_enumerate (ai_cons (ei_v 3) (ai_nil))) (blkOk_by (own := [("other", 4), ("entry", 5)]) (N := N__law_keeps) (sc := defScope (topS 19)) (by decide +kernel)) (fun _ _ _ _ _ => gi_t rfl (gsi_cons (gi_n sc__law_keeps.nd rfl (by first | exact Or.inl rfl | exact Or.inr rfl)) (gsi_cons (gi_n sc__law_keeps.nd rfl (by first | exact Or.inl rfl | exact Or.inr rfl)) (gsi_nil)))) (fun _ _ _ _ _ => tsi_nil) (fun _ _ _ _ _ => ei_cmp op2_ge (ei_op op2_sub (ei_ix (ei_v 1) (ei_v 4)) (ei_ix (ei_v 1) (ei_v 2))) (ei_v 5) (nomark _)) (by decide)) (ai_nil)))))
 (bi_one (si_ret (ei_bl)))
 (bi_nil))))
 (bi_one (si_ret (ei_bl)))) ref_gen
theorem has__law_mixture {P : Program} {w : World} {K : Frg} {mg : Str → Option Value} {base : Heap} (T : Top K mg) : Has P w K mg base 1 "_law_mixture" (topS 20) ["settings", "picks"] M__law_mixture :=
  has_of (N := N__law_mixture) (m := m__law_mixture) T.d__law_mixture sc__law_mixture (fun _ _ _ _ _ _ us hl => match us, hl with | [_, _], _ => rfl) (fun f cdv A outer s H E hr hgd =>
  bi_cons (si_set (i := 2) sc__law_mixture.nd rfl (.inl rfl) (ei_non))
 (bi_cons (si_for PassesOwn.never rfl (ii_v (ei_v 1)) (gi_n sc__law_mixture.nd rfl (by first | exact Or.inl rfl | exact Or.inr rfl))
 (bi_cons (si_set (i := 4) sc__law_mixture.nd rfl (.inl rfl) (ei_non))
 (bi_cons (si_for PassesOwn.never rfl (ii_v (ei_v 3)) (gi_t rfl (gsi_cons (gi_n sc__law_mixture.nd rfl (by first | exact Or.inl rfl | exact Or.inr rfl)) (gsi_cons (gi_n sc__law_mixture.nd rfl (by first | exact Or.inl rfl | exact Or.inr rfl)) (gsi_nil))))
 (bi_cons (si_setLc false (own := [("item", 8)]) (i := 7) rfl sc__law_mixture.nd rfl rfl (sw_true rfl rfl rfl (by decide +kernel)) (ii_v (ei_ix (ei_v 0) (ei_v 5))) (blkOk_by (own := [("item", 8)]) (N := N__law_mixture) (sc := defScope (topS 20)) (by decide +kernel)) (fun _ _ _ _ _ => gi_n sc__law_mixture.nd rfl (by first | exact Or.inl rfl | exact Or.inr rfl)) (fun _ _ _ _ _ => tsi_nil) (fun _ _ _ _ _ => ei_op op2_add (ei_v 8) (ei_v 6)) (by decide))
 (bi_one (si_set (i := 4) sc__law_mixture.nd rfl (.inl rfl) (ei_if (ti_cmp op2_is (ei_v 4) (ei_non) (nomark _)) (ei_v 7) (ei_lc false (own := [("pair", 9)]) rfl sc__law_mixture.nd (ii_zipN (by rfl) T.z_zip (ai_cons (ei_v 4) (ai_cons (ei_v 7) (ai_nil)))) (blkOk_by (own := [("pair", 9)]) (N := N__law_mixture) (sc := defScope (topS 20)) (by decide +kernel)) (fun _ _ _ _ _ => gi_n sc__law_mixture.nd rfl (by first | exact Or.inl rfl | exact Or.inr rfl)) (fun _ _ _ _ _ => tsi_nil) (fun _ _ _ _ _ => ei_callB (opc_min rfl hr.units) (by rfl) T.z_min (by decide +kernel) (ai_cons (ei_ix (ei_v 9) (ei_int)) (ai_cons (ei_ix (ei_v 9) (ei_int)) (ai_nil)))) (by decide)))))))
 (bi_one (si_set (i := 2) sc__law_mixture.nd rfl (.inl rfl) (ei_if (ti_cmp op2_is (ei_v 2) (ei_non) (nomark _)) (ei_v 4) (ei_lc false (own := [("pair", 9)]) rfl sc__law_mixture.nd (ii_zipN (by rfl) T.z_zip (ai_cons (ei_v 2) (ai_cons (ei_v 4) (ai_nil)))) (blkOk_by (own := [("pair", 9)]) (N := N__law_mixture) (sc := defScope (topS 20)) (by decide +kernel)) (fun _ _ _ _ _ => gi_n sc__law_mixture.nd rfl (by first | exact Or.inl rfl | exact Or.inr rfl)) (fun _ _ _ _ _ => tsi_nil) (fun _ _ _ _ _ => ei_callB (opc_max rfl hr.units) (by rfl) T.z_max (by decide +kernel) (ai_cons (ei_ix (ei_v 9) (ei_int)) (ai_cons (ei_ix (ei_v 9) (ei_int)) (ai_nil)))) (by decide))))))))
 (bi_one (si_ret (ei_callT opc_tuple (by rfl) T.z_tuple (by decide +kernel) (ai_cons (ei_v 2) (ai_nil))))))) ref_gen
theorem has__law_is_integer {P : Program} {w : World} {K : Frg} {mg : Str → Option Value} {base : Heap} (T : Top K mg) : Has P w K mg base 1 "_law_is_integer" (topS 21) ["value"] M__law_is_integer :=
  has_of (N := N__law_is_integer) (m := m__law_is_integer) T.d__law_is_integer sc__law_is_integer (fun _ _ _ _ _ _ us hl => match us, hl with | [_], _ => rfl) (fun f cdv A outer s H E hr hgd =>
  bi_one (si_ret (ei_and (ei_callB opc_isi (by rfl) T.z_isinstance (by decide +kernel) (ai_cons (ei_v 0) (ai_cons (ei_ty (T := "int") (by rfl) T.z_int (by decide +kernel)) (ai_nil)))) (ei_one (ei_not (ei_callB opc_isi (by rfl) T.z_isinstance (by decide +kernel) (ai_cons (ei_v 0) (ai_cons (ei_ty (T := "bool") (by rfl) T.z_bool (by decide +kernel)) (ai_nil))))))))) ref_gen
theorem has__law_are_picks {P : Program} {w : World} {K : Frg} {mg : Str → Option Value} {base : Heap} (T : Top K mg) (h__law_is_integer : Has P w K mg base 1 "_law_is_integer" (topS 21) ["value"] M__law_is_integer) : Has P w K mg base 2 "_law_are_picks" (topS 22) ["settings", "value"] M__law_are_picks :=
  has_of (N := N__law_are_picks) (m := m__law_are_picks) T.d__law_are_picks sc__law_are_picks (fun _ _ _ _ _ _ us hl => match us, hl with | [_, _], _ => rfl) (fun f cdv A outer s H E hr hgd =>
  bi_cons (si_if (ti_w (wi_or (ti_not (ti_tru (ei_callB opc_isi (by rfl) T.z_isinstance (by decide +kernel) (ai_cons (ei_v 1) (ai_cons (ei_ty (T := "tuple") (by rfl) T.z_tuple (by decide +kernel)) (ai_nil)))))) (wi_or (ti_cmp (op2_eq hr.units) (ei_v 1) (ei_tup (ai_nil)) (nomark _)) (wi_or1 (ti_not (ti_tru (ei_callB (opc_all rfl) (by rfl) T.z_all (by decide +kernel) (ai_cons (ei_lc false (own := [("pairs", 2)]) rfl sc__law_are_picks.nd (ii_v (ei_v 1)) (blkOk_by (own := [("pairs", 2)]) (N := N__law_are_picks) (sc := defScope (topS 22)) (by decide +kernel)) (fun _ _ _ _ _ => gi_n sc__law_are_picks.nd rfl (by first | exact Or.inl rfl | exact Or.inr rfl)) (fun _ _ _ _ _ => tsi_nil) (fun _ _ _ _ _ => ei_and (ei_callB opc_isi (by rfl) T.z_isinstance (by decide +kernel) (ai_cons (ei_v 2) (ai_cons (ei_ty (T := "tuple") (by rfl) T.z_tuple (by decide +kernel)) (ai_nil)))) (ei_one (ei_cmp (op2_ne hr.units) (ei_v 2) (ei_tup (ai_nil)) (nomark _)))) (by decide)) (ai_nil)))))))))
 (bi_one (si_ret (ei_bl)))
 (bi_nil))
 (bi_cons (si_for PassesOwn.never rfl (ii_v (ei_v 1)) (gi_n sc__law_are_picks.nd rfl (by first | exact Or.inl rfl | exact Or.inr rfl))
 (bi_cons (si_if (ti_not (ti_tru (ei_callB (opc_all rfl) (by rfl) T.z_all (by decide +kernel) (ai_cons (ei_lc false (own := [("pair", 3)]) rfl sc__law_are_picks.nd (ii_v (ei_v 2)) (blkOk_by (own := [("pair", 3)]) (N := N__law_are_picks) (sc := defScope (topS 22)) (by decide +kernel)) (fun _ _ _ _ _ => gi_n sc__law_are_picks.nd rfl (by first | exact Or.inl rfl | exact Or.inr rfl)) (fun _ _ _ _ _ => tsi_nil) (fun _ _ _ _ _ => ei_and (ei_callB opc_isi (by rfl) T.z_isinstance (by decide +kernel) (ai_cons (ei_v 3) (ai_cons (ei_ty (T := "tuple") (by rfl) T.z_tuple (by decide +kernel)) (ai_nil)))) (ei_one (ei_cmp (op2_eq hr.units) (ei_callB opc_len (by rfl) T.z_len (by decide +kernel) (ai_cons (ei_v 3) (ai_nil))) (ei_int) (nomark _)))) (by decide)) (ai_nil)))))
 (bi_one (si_ret (ei_bl)))
 (bi_nil))
 (bi_one (si_if (ti_not (ti_tru (ei_callB (opc_all rfl) (by rfl) T.z_all (by decide +kernel) (ai_cons (ei_lc false (own := [("pair", 3)]) rfl sc__law_are_picks.nd (ii_v (ei_v 2)) (blkOk_by (own := [("pair", 3)]) (N := N__law_are_picks) (sc := defScope (topS 22)) (by decide +kernel)) (fun _ _ _ _ _ => gi_n sc__law_are_picks.nd rfl (by first | exact Or.inl rfl | exact Or.inr rfl)) (fun _ _ _ _ _ => tsi_nil) (fun _ _ _ _ _ => ei_and (ei_has h__law_is_integer hr (by decide) hgd (by rfl) (ai_cons (ei_ix (ei_v 3) (ei_int)) (ai_nil)) (len_cons len_nil)) (ei_and (ei_has h__law_is_integer hr (by decide) hgd (by rfl) (ai_cons (ei_ix (ei_v 3) (ei_int)) (ai_nil)) (len_cons len_nil)) (ei_one (ei_chain op2_le op2_lt (ei_int) (ei_ix (ei_v 3) (ei_int)) (ei_callB opc_len (by rfl) T.z_len (by decide +kernel) (ai_cons (ei_v 0) (ai_nil))))))) (by decide)) (ai_nil)))))
 (bi_one (si_ret (ei_bl)))
 (bi_nil)))))
 (bi_one (si_ret (ei_bl))))) ref_gen
theorem has__law_picks_right {P : Program} {w : World} {K : Frg} {mg : Str → Option Value} {base : Heap} (T : Top K mg) (h_picks_of : Has P w K mg base 3 "picks_of" (topS 12) ["settings", "value"] M_picks_of) (h__law_hull : Has P w K mg base 1 "_law_hull" (topS 18) ["settings"] M__law_hull) (h__law_keeps : Has P w K mg base 1 "_law_keeps" (topS 19) ["rows", "setting"] M__law_keeps) (h__law_are_picks : Has P w K mg base 2 "_law_are_picks" (topS 22) ["settings", "value"] M__law_are_picks) (h__law_mixture : Has P w K mg base 1 "_law_mixture" (topS 20) ["settings", "picks"] M__law_mixture) (h_mixture : Has P w K mg base 1 "mixture" (topS 10) ["settings", "picks"] M_mixture) : Has P w K mg base 4 "_law_picks_right" (topS 23) ["settings", "value"] M__law_picks_right :=
  has_of (N := N__law_picks_right) (m := m__law_picks_right) T.d__law_picks_right sc__law_picks_right (fun _ _ _ _ _ _ us hl => match us, hl with | [_, _], _ => rfl) (fun f cdv A outer s H E hr hgd =>
  bi_cons (si_set (i := 2) sc__law_picks_right.nd rfl (.inl rfl) (ei_has h_picks_of hr (by decide) hgd (by rfl) (ai_cons (ei_v 0) (ai_cons (ei_v 1) (ai_nil))) (len_cons (len_cons len_nil))))
 (bi_cons (si_if (ti_w (wi_or (ti_not (ti_tru (ei_has h__law_keeps hr (by decide) hgd (by rfl) (ai_cons (ei_has h__law_hull hr (by decide) hgd (by rfl) (ai_cons (ei_v 0) (ai_nil)) (len_cons len_nil)) (ai_cons (ei_v 1) (ai_nil))) (len_cons (len_cons len_nil))))) (wi_or1 (ti_cmp op2_is (ei_v 2) (ei_non) (nomark _)))))
 (bi_one (si_ret (ei_and (ei_cmp op2_is (ei_v 2) (ei_non) (nomark _)) (ei_one (ei_not (ei_has h__law_keeps hr (by decide) hgd (by rfl) (ai_cons (ei_has h__law_hull hr (by decide) hgd (by rfl) (ai_cons (ei_v 0) (ai_nil)) (len_cons len_nil)) (ai_cons (ei_v 1) (ai_nil))) (len_cons (len_cons len_nil))))))))
 (bi_nil))
 (bi_cons (si_set (i := 3) sc__law_picks_right.nd rfl (.inl rfl) (ei_hasK0 (ks := ["value", "settings"]) (ix := [1, 0]) h_picks_of hr (by decide) hgd (by rfl) (ki_cons (ei_v 1) (ki_cons (ei_v 0) (ki_nil))) (fun _ _ _ _ _ _ us ws h1 h2 => match us, ws, h1, h2 with | [], [_, _], _, _ => rfl) (len_cons (len_cons len_nil)) (fun l h => match l, h with | [_, _], _ => rfl)))
 (bi_cons (si_if (ti_w (wi_or (ti_not (ti_tru (ei_has h__law_are_picks hr (by decide) hgd (by rfl) (ai_cons (ei_v 0) (ai_cons (ei_v 2) (ai_nil))) (len_cons (len_cons len_nil))))) (wi_or (ti_cmp (op2_ne hr.units) (ei_v 3) (ei_v 2) (nomark _)) (wi_or1 (ti_not (ti_tru (ei_has h__law_are_picks hr (by decide) hgd (by rfl) (ai_cons (ei_v 0) (ai_cons (ei_v 3) (ai_nil))) (len_cons (len_cons len_nil)))))))))
 (bi_one (si_ret (ei_bl)))
 (bi_nil))
 (bi_one (si_ret (ei_and (ei_cmp (op2_eq hr.units) (ei_has h__law_mixture hr (by decide) hgd (by rfl) (ai_cons (ei_v 0) (ai_cons (ei_v 2) (ai_nil))) (len_cons (len_cons len_nil))) (ei_v 1) (nomark _)) (ei_one (ei_cmp (op2_eq hr.units) (ei_has h_mixture hr (by decide) hgd (by rfl) (ai_cons (ei_v 0) (ai_cons (ei_v 2) (ai_nil))) (len_cons (len_cons len_nil))) (ei_v 1) (nomark _)))))))))) ref_gen
theorem has__law_level {P : Program} {w : World} {K : Frg} {mg : Str → Option Value} {base : Heap} (T : Top K mg) : Has P w K mg base 1 "_law_level" (topS 24) ["setting"] M__law_level :=
  has_of (N := N__law_level) (m := m__law_level) T.d__law_level sc__law_level (fun _ _ _ _ _ _ us hl => match us, hl with | [_], _ => rfl) (fun f cdv A outer s H E hr hgd =>
  bi_one (si_ret (ei_callT opc_tuple (by rfl) T.z_tuple (by decide +kernel) (ai_cons (ei_lc false (own := [("item", 1)]) rfl sc__law_level.nd (ii_v (ei_v 0)) (blkOk_by (own := [("item", 1)]) (N := N__law_level) (sc := defScope (topS 24)) (by decide +kernel)) (fun _ _ _ _ _ => gi_n sc__law_level.nd rfl (by first | exact Or.inl rfl | exact Or.inr rfl)) (fun _ _ _ _ _ => tsi_nil) (fun _ _ _ _ _ => ei_op op2_sub (ei_v 1) (ei_ix (ei_v 0) (ei_int))) (by decide)) (ai_nil))))) ref_gen
theorem has__law_round {P : Program} {w : World} {K : Frg} {mg : Str → Option Value} {base : Heap} (T : Top K mg) (h__law_level : Has P w K mg base 1 "_law_level" (topS 24) ["setting"] M__law_level) : Has P w K mg base 2 "_law_round" (topS 25) ["settings"] M__law_round :=
  has_of (N := N__law_round) (m := m__law_round) T.d__law_round sc__law_round (fun _ _ _ _ _ _ us hl => match us, hl with | [_], _ => rfl) (fun f cdv A outer s H E hr hgd =>
  bi_cons (si_par (i := 2) (j := 3) rfl sc__law_round.nd rfl rfl (by decide) rfl rfl (ai_cons (ei_lst (ai_nil)) (ai_cons (ei_lc true (own := [("some", 1)]) rfl sc__law_round.nd (ii_v (ei_v 0)) (blkOk_by (own := [("some", 1)]) (N := N__law_round) (sc := defScope (topS 25)) (by decide +kernel)) (fun _ _ _ _ _ => gi_n sc__law_round.nd rfl (by first | exact Or.inl rfl | exact Or.inr rfl)) (fun _ _ _ _ _ => tsi_nil) (fun _ _ _ _ _ => ei_has h__law_level hr (by decide) hgd (by rfl) (ai_cons (ei_v 1) (ai_nil)) (len_cons len_nil)) (by decide)) (ai_nil))) (by rfl))
 (bi_cons (si_set (i := 4) sc__law_round.nd rfl (.inl rfl) (ei_callB (opc_max rfl hr.units) (by rfl) T.z_max (by decide +kernel) (ai_cons (ei_lc false (own := [("some", 1)]) rfl sc__law_round.nd (ii_v (ei_v 0)) (blkOk_by (own := [("some", 1)]) (N := N__law_round) (sc := defScope (topS 25)) (by decide +kernel)) (fun _ _ _ _ _ => gi_n sc__law_round.nd rfl (by first | exact Or.inl rfl | exact Or.inr rfl)) (fun _ _ _ _ _ => tsi_nil) (fun _ _ _ _ _ => ei_op op2_sub (ei_callB (opc_max rfl hr.units) (by rfl) T.z_max (by decide +kernel) (ai_cons (ei_v 1) (ai_nil))) (ei_callB (opc_min rfl hr.units) (by rfl) T.z_min (by decide +kernel) (ai_cons (ei_v 1) (ai_nil)))) (by decide)) (ai_nil))))
 (bi_cons (si_for PassesOwn.never rfl (ii_rng1 (by rfl) T.z_range (ai_cons (ei_int) (ai_nil))) (gi_n sc__law_round.nd rfl (by first | exact Or.inl rfl | exact Or.inr rfl))
 (bi_cons (si_if (ti_cmp (op2_eq hr.units) (ei_v 3) (ei_fro (ai_nil)) (nomark _))
 (bi_one (si_bk))
 (bi_nil))
 (bi_cons (si_set (i := 6) sc__law_round.nd rfl (.inr rfl) (ei_bm0 PySem.F.plainAttrs_list PySem.F.slot_list_pop PySem.F.type_list_pop opm_pop (ei_v 3)))
 (bi_one (si_if (ti_cmp (op2_notinD2 (u65 hr)) (ei_v 6) (ei_v 2) (by rfl))
 (bi_cons (si_expr (ei_bm PySem.F.plainAttrs_list PySem.F.slot_list_append PySem.F.type_list_append opm_append (ei_v 2) (ai_cons (ei_v 6) (ai_nil))))
 (bi_one (si_for PassesOwn.never rfl (ii_v (ei_callT (opc_list false) (by rfl) T.z_list (by decide +kernel) (ai_cons (ei_v 2) (ai_nil)))) (gi_n sc__law_round.nd rfl (by first | exact Or.inl rfl | exact Or.inr rfl))
 (bi_one (si_for PassesOwn.never rfl (ii_rng2 (by rfl) T.z_range (ai_cons (ei_op op2_sub (ei_int) (ei_op op2_mul (ei_int) (ei_v 4))) (ai_cons (ei_op op2_add (ei_op op2_mul (ei_int) (ei_v 4)) (ei_int)) (ai_nil)))) (gi_n sc__law_round.nd rfl (by first | exact Or.inl rfl | exact Or.inr rfl))
 (bi_cons (si_setLc false (own := [("at", 10)]) (i := 9) rfl sc__law_round.nd rfl rfl (sw_true rfl rfl rfl (by decide +kernel)) (ii_rng1 (by rfl) T.z_range (ai_cons (ei_callB opc_len (by rfl) T.z_len (by decide +kernel) (ai_cons (ei_v 6) (ai_nil))) (ai_nil))) (blkOk_by (own := [("at", 10)]) (N := N__law_round) (sc := defScope (topS 25)) (by decide +kernel)) (fun _ _ _ _ _ => gi_n sc__law_round.nd rfl (by first | exact Or.inl rfl | exact Or.inr rfl)) (fun _ _ _ _ _ => tsi_nil) (fun _ _ _ _ _ => ei_tup (ai_cons (ei_ix (ei_v 6) (ei_v 10)) (ai_cons (ei_op op2_add (ei_ix (ei_v 7) (ei_v 10)) (ei_v 8)) (ai_nil)))) (by decide))
 (bi_one (si_for PassesOwn.never rfl (ii_v (ei_fro (ai_cons (ei_has h__law_level hr (by decide) hgd (by rfl) (ai_cons (ei_lc false (own := [("pair", 11)]) rfl sc__law_round.nd (ii_v (ei_v 9)) (blkOk_by (own := [("pair", 11)]) (N := N__law_round) (sc := defScope (topS 25)) (by decide +kernel)) (fun _ _ _ _ _ => gi_n sc__law_round.nd rfl (by first | exact Or.inl rfl | exact Or.inr rfl)) (fun _ _ _ _ _ => tsi_nil) (fun _ _ _ _ _ => ei_callB (opc_max rfl hr.units) (by rfl) T.z_max (by decide +kernel) (ai_cons (ei_v 11) (ai_nil))) (by decide)) (ai_nil)) (len_cons len_nil)) (ai_cons (ei_has h__law_level hr (by decide) hgd (by rfl) (ai_cons (ei_lc false (own := [("pair", 11)]) rfl sc__law_round.nd (ii_v (ei_v 9)) (blkOk_by (own := [("pair", 11)]) (N := N__law_round) (sc := defScope (topS 25)) (by decide +kernel)) (fun _ _ _ _ _ => gi_n sc__law_round.nd rfl (by first | exact Or.inl rfl | exact Or.inr rfl)) (fun _ _ _ _ _ => tsi_nil) (fun _ _ _ _ _ => ei_callB (opc_min rfl hr.units) (by rfl) T.z_min (by decide +kernel) (ai_cons (ei_v 11) (ai_nil))) (by decide)) (ai_nil)) (len_cons len_nil)) (ai_nil))))) (gi_n sc__law_round.nd rfl (by first | exact Or.inl rfl | exact Or.inr rfl))
 (bi_one (si_if (ti_w (wi_and (ti_cmp (op2_notinD2 (u65 hr)) (ei_v 1) (ei_v 2) (by rfl)) (wi_and1 (ti_cmp (op2_notinD2 (u65 hr)) (ei_v 1) (ei_v 3) (by rfl)))))
 (bi_one (si_expr (ei_bm PySem.F.plainAttrs_list PySem.F.slot_list_append PySem.F.type_list_append opm_append (ei_v 3) (ai_cons (ei_v 1) (ai_nil)))))
 (bi_nil)))))))))))
 (bi_nil))))))
 (bi_one (si_ret (ei_callB (opc_sorted false (u100 hr)) (by rfl) T.z_sorted (by decide +kernel) (ai_cons (ei_v 2) (ai_nil)))))))) ref_gen
theorem has__law_all {P : Program} {w : World} {K : Frg} {mg : Str → Option Value} {base : Heap} (T : Top K mg) (h__law_keeps : Has P w K mg base 1 "_law_keeps" (topS 19) ["rows", "setting"] M__law_keeps) : Has P w K mg base 2 "_law_all" (topS 26) ["rows"] M__law_all :=
  has_of (N := N__law_all) (m := m__law_all) T.d__law_all sc__law_all (fun _ _ _ _ _ _ us hl => match us, hl with | [_], _ => rfl) (fun f cdv A outer s H E hr hgd =>
  bi_cons (si_set (i := 1) sc__law_all.nd rfl (.inl rfl) (ei_fro (ai_cons (ei_tup (ai_cons (ei_int) (ai_nil))) (ai_nil))))
 (bi_cons (si_for PassesOwn.never rfl (ii_rng2 (by rfl) T.z_range (ai_cons (ei_int) (ai_cons (ei_callB opc_len (by rfl) T.z_len (by decide +kernel) (ai_cons (ei_v 0) (ai_nil))) (ai_nil)))) (gi_n sc__law_all.nd rfl (by first | exact Or.inl rfl | exact Or.inr rfl))
 (bi_cons (si_set (i := 3) sc__law_all.nd rfl (.inl rfl) (ei_fro (ai_nil)))
 (bi_cons (si_for PassesOwn.never rfl (ii_v (ei_v 1)) (gi_n sc__law_all.nd rfl (by first | exact Or.inl rfl | exact Or.inr rfl))
 (bi_one (si_set (i := 3) sc__law_all.nd rfl (.inl rfl) (ei_op op2_add (ei_v 3) (ei_lc false (own := [("number", 5)]) rfl sc__law_all.nd (ii_rng2 (by rfl) T.z_range (ai_cons (ei_ix (ei_ix (ei_v 0) (ei_int)) (ei_v 2)) (ai_cons (ei_op op2_sub (ei_int) (ei_ix (ei_ix (ei_v 0) (ei_v 2)) (ei_int))) (ai_nil)))) (blkOk_by (own := [("number", 5)]) (N := N__law_all) (sc := defScope (topS 26)) (by decide +kernel)) (fun _ _ _ _ _ => gi_n sc__law_all.nd rfl (by first | exact Or.inl rfl | exact Or.inr rfl)) (fun _ _ _ _ _ => tsi_nil) (fun _ _ _ _ _ => ei_op op2_add (ei_v 4) (ei_tup (ai_cons (ei_v 5) (ai_nil)))) (by decide))))))
 (bi_one (si_set (i := 1) sc__law_all.nd rfl (.inl rfl) (ei_v 3))))))
 (bi_one (si_ret (ei_callB (opc_sorted false (u100 hr)) (by rfl) T.z_sorted (by decide +kernel) (ai_cons (ei_lc false (own := [("some", 4)]) rfl sc__law_all.nd (ii_v (ei_v 1)) (blkOk_by (own := [("some", 4)]) (N := N__law_all) (sc := defScope (topS 26)) (by decide +kernel)) (fun _ _ _ _ _ => gi_n sc__law_all.nd rfl (by first | exact Or.inl rfl | exact Or.inr rfl)) (fun _ _ _ _ _ => tsi_one (ti_tru (ei_has h__law_keeps hr (by decide) hgd (by rfl) (ai_cons (ei_v 0) (ai_cons (ei_v 4) (ai_nil))) (len_cons (len_cons len_nil))))) (fun _ _ _ _ _ => ei_v 4) (by decide)) (ai_nil))))))) ref_gen
theorem has__law_between_right {P : Program} {w : World} {K : Frg} {mg : Str → Option Value} {base : Heap} (T : Top K mg) (h__law_draw : Has P w K mg base 1 "_law_draw" (topS 15) ["heap", "many"] M__law_draw) (h_hull_rows : Has P w K mg base 1 "hull_rows" (topS 9) ["settings"] M_hull_rows) (h__law_hull : Has P w K mg base 1 "_law_hull" (topS 18) ["settings"] M__law_hull) (h__law_all : Has P w K mg base 2 "_law_all" (topS 26) ["rows"] M__law_all) (h__law_round : Has P w K mg base 2 "_law_round" (topS 25) ["settings"] M__law_round) (h__law_picks_right : Has P w K mg base 4 "_law_picks_right" (topS 23) ["settings", "value"] M__law_picks_right) : Has P w K mg base 5 "_law_between_right" (topS 27) ["heap", "many"] M__law_between_right :=
  has_of (N := N__law_between_right) (m := m__law_between_right) T.d__law_between_right sc__law_between_right (fun _ _ _ _ _ _ us hl => match us, hl with | [_, _], _ => rfl) (fun f cdv A outer s H E hr hgd =>
  bi_cons (si_set (i := 3) sc__law_between_right.nd rfl (.inl rfl) (ei_callT opc_tuple (by rfl) T.z_tuple (by decide +kernel) (ai_cons (ei_lc false (own := [("turn", 2)]) rfl sc__law_between_right.nd (ii_rng1 (by rfl) T.z_range (ai_cons (ei_op op2_add (ei_int) (ei_has h__law_draw hr (by decide) hgd (by rfl) (ai_cons (ei_v 0) (ai_cons (ei_if (ti_cmp op2_gt (ei_v 1) (ei_int) (nomark _)) (ei_int) (ei_int)) (ai_nil))) (len_cons (len_cons len_nil)))) (ai_nil))) (blkOk_by (own := [("turn", 2)]) (N := N__law_between_right) (sc := defScope (topS 27)) (by decide +kernel)) (fun _ _ _ _ _ => gi_n sc__law_between_right.nd rfl (by first | exact Or.inl rfl | exact Or.inr rfl)) (fun _ _ _ _ _ => tsi_nil) (fun _ _ _ _ _ => ei_callT opc_tuple (by rfl) T.z_tuple (by decide +kernel) (ai_cons (ei_lc false (own := [("point", 8)]) rfl sc__law_between_right.nd (ii_rng1 (by rfl) T.z_range (ai_cons (ei_v 1) (ai_nil))) (blkOk_by (own := [("point", 8)]) (N := N__law_between_right) (by kernel_rfl)) (fun _ _ _ _ _ => gi_n sc__law_between_right.nd rfl (by first | exact Or.inl rfl | exact Or.inr rfl)) (fun _ _ _ _ _ => tsi_nil) (fun _ _ _ _ _ => ei_has h__law_draw hr (by decide) hgd (by rfl) (ai_cons (ei_v 0) (ai_cons (ei_int) (ai_nil))) (len_cons (len_cons len_nil))) (by decide)) (ai_nil))) (by decide)) (ai_nil))))
 (bi_cons (si_set (i := 4) sc__law_between_right.nd rfl (.inl rfl) (ei_has h_hull_rows hr (by decide) hgd (by rfl) (ai_cons (ei_v 3) (ai_nil)) (len_cons len_nil)))
 (bi_cons (si_if (ti_w (wi_or (ti_cmp (op2_ne hr.units) (ei_callB (opc_repr hgd hr.units) (by rfl) T.z_repr (by decide +kernel) (ai_cons (ei_v 4) (ai_nil))) (ei_callB (opc_repr hgd hr.units) (by rfl) T.z_repr (by decide +kernel) (ai_cons (ei_has h__law_hull hr (by decide) hgd (by rfl) (ai_cons (ei_v 3) (ai_nil)) (len_cons len_nil)) (ai_nil))) (nomark _)) (wi_or1 (ti_cmp (op2_ne hr.units) (ei_hasK0 (ks := ["settings"]) (ix := [0]) h_hull_rows hr (by decide) hgd (by rfl) (ki_cons (ei_v 3) (ki_nil)) (fun _ _ _ _ _ _ us ws h1 h2 => match us, ws, h1, h2 with | [], [_], _, _ => rfl) (len_cons len_nil) (fun l h => match l, h with | [_], _ => rfl)) (ei_v 4) (nomark _)))))
 (bi_one (si_ret (ei_bl)))
 (bi_nil))
 (bi_cons (si_set (i := 5) sc__law_between_right.nd rfl (.inl rfl) (ei_has h__law_all hr (by decide) hgd (by rfl) (ai_cons (ei_v 4) (ai_nil)) (len_cons len_nil)))
 (bi_cons (si_if (ti_cmp (op2_ne hr.units) (ei_v 5) (ei_has h__law_round hr (by decide) hgd (by rfl) (ai_cons (ei_v 3) (ai_nil)) (len_cons len_nil)) (nomark _))
 (bi_one (si_ret (ei_bl)))
 (bi_nil))
 (bi_cons (si_set (i := 6) sc__law_between_right.nd rfl (.inr rfl) (ei_op op2_sub (ei_has h__law_draw hr (by decide) hgd (by rfl) (ai_cons (ei_v 0) (ai_cons (ei_int) (ai_nil))) (len_cons (len_cons len_nil))) (ei_int)))
 (bi_cons (si_for PassesOwn.never rfl (ii_v (ei_v 5)) (gi_n sc__law_between_right.nd rfl (by first | exact Or.inl rfl | exact Or.inr rfl))
 (bi_one (si_if (ti_not (ti_tru (ei_has h__law_picks_right hr (by decide) hgd (by rfl) (ai_cons (ei_v 3) (ai_cons (ei_callT opc_tuple (by rfl) T.z_tuple (by decide +kernel) (ai_cons (ei_lc false (own := [("item", 9)]) rfl sc__law_between_right.nd (ii_v (ei_v 7)) (blkOk_by (own := [("item", 9)]) (N := N__law_between_right) (sc := defScope (topS 27)) (by decide +kernel)) (fun _ _ _ _ _ => gi_n sc__law_between_right.nd rfl (by first | exact Or.inl rfl | exact Or.inr rfl)) (fun _ _ _ _ _ => tsi_nil) (fun _ _ _ _ _ => ei_op op2_add (ei_v 9) (ei_v 6)) (by decide)) (ai_nil))) (ai_nil))) (len_cons (len_cons len_nil)))))
 (bi_one (si_ret (ei_bl)))
 (bi_nil))))
 (bi_cons (si_for PassesOwn.never rfl (ii_rng1 (by rfl) T.z_range (ai_cons (ei_int) (ai_nil))) (gi_n sc__law_between_right.nd rfl (by first | exact Or.inl rfl | exact Or.inr rfl))
 (bi_one (si_if (ti_not (ti_tru (ei_has h__law_picks_right hr (by decide) hgd (by rfl) (ai_cons (ei_v 3) (ai_cons (ei_callT opc_tuple (by rfl) T.z_tuple (by decide +kernel) (ai_cons (ei_lc false (own := [("point", 8)]) rfl sc__law_between_right.nd (ii_rng1 (by rfl) T.z_range (ai_cons (ei_v 1) (ai_nil))) (blkOk_by (own := [("point", 8)]) (N := N__law_between_right) (sc := defScope (topS 27)) (by decide +kernel)) (fun _ _ _ _ _ => gi_n sc__law_between_right.nd rfl (by first | exact Or.inl rfl | exact Or.inr rfl)) (fun _ _ _ _ _ => tsi_nil) (fun _ _ _ _ _ => ei_has h__law_draw hr (by decide) hgd (by rfl) (ai_cons (ei_v 0) (ai_cons (ei_int) (ai_nil))) (len_cons (len_cons len_nil))) (by decide)) (ai_nil))) (ai_nil))) (len_cons (len_cons len_nil)))))
 (bi_one (si_ret (ei_bl)))
 (bi_nil))))
 (bi_one (si_ret (ei_bl))))))))))) ref_gen
theorem has__law_setting {P : Program} {w : World} {K : Frg} {mg : Str → Option Value} {base : Heap} (T : Top K mg) (h__law_draw : Has P w K mg base 1 "_law_draw" (topS 15) ["heap", "many"] M__law_draw) (h__law_pick : Has P w K mg base 2 "_law_pick" (topS 16) ["heap", "some"] M__law_pick) : Has P w K mg base 3 "_law_setting" (topS 28) ["heap", "many", "settings"] M__law_setting :=
  has_of (N := N__law_setting) (m := m__law_setting) T.d__law_setting sc__law_setting (fun _ _ _ _ _ _ us hl => match us, hl with | [_, _, _], _ => rfl) (fun f cdv A outer s H E hr hgd =>
  bi_cons (si_set (i := 3) sc__law_setting.nd rfl (.inl rfl) (ei_has h__law_draw hr (by decide) hgd (by rfl) (ai_cons (ei_v 0) (ai_cons (ei_int) (ai_nil))) (len_cons (len_cons len_nil))))
 (bi_cons (si_if (ti_cmp (op2_eq hr.units) (ei_v 3) (ei_int) (nomark _))
 (bi_one (si_ret (ei_callT opc_tuple (by rfl) T.z_tuple (by decide +kernel) (ai_cons (ei_lc false (own := [("point", 5)]) rfl sc__law_setting.nd (ii_rng1 (by rfl) T.z_range (ai_cons (ei_v 1) (ai_nil))) (blkOk_by (own := [("point", 5)]) (N := N__law_setting) (sc := defScope (topS 28)) (by decide +kernel)) (fun _ _ _ _ _ => gi_n sc__law_setting.nd rfl (by first | exact Or.inl rfl | exact Or.inr rfl)) (fun _ _ _ _ _ => tsi_nil) (fun _ _ _ _ _ => ei_op op2_sub (ei_has h__law_draw hr (by decide) hgd (by rfl) (ai_cons (ei_v 0) (ai_cons (ei_op op2_pow (ei_int) (ei_int)) (ai_nil))) (len_cons (len_cons len_nil))) (ei_op op2_pow (ei_int) (ei_int))) (by decide)) (ai_nil)))))
 (bi_nil))
 (bi_cons (si_if (ti_w (wi_and (ti_cmp op2_lt (ei_v 3) (ei_int) (nomark _)) (wi_and1 (ti_cmp (op2_ne hr.units) (ei_v 2) (ei_fro (ai_nil)) (nomark _)))))
 (bi_cons (si_set (i := 4) sc__law_setting.nd rfl (.inr rfl) (ei_has h__law_draw hr (by decide) hgd (by rfl) (ai_cons (ei_v 0) (ai_cons (ei_int) (ai_nil))) (len_cons (len_cons len_nil))))
 (bi_one (si_ret (ei_callT opc_tuple (by rfl) T.z_tuple (by decide +kernel) (ai_cons (ei_lc false (own := [("item", 6)]) rfl sc__law_setting.nd (ii_v (ei_has h__law_pick hr (by decide) hgd (by rfl) (ai_cons (ei_v 0) (ai_cons (ei_v 2) (ai_nil))) (len_cons (len_cons len_nil)))) (blkOk_by (own := [("item", 6)]) (N := N__law_setting) (sc := defScope (topS 28)) (by decide +kernel)) (fun _ _ _ _ _ => gi_n sc__law_setting.nd rfl (by first | exact Or.inl rfl | exact Or.inr rfl)) (fun _ _ _ _ _ => tsi_nil) (fun _ _ _ _ _ => ei_op op2_add (ei_op op2_add (ei_v 6) (ei_v 4)) (ei_has h__law_pick hr (by decide) hgd (by rfl) (ai_cons (ei_v 0) (ai_cons (ei_fro (ai_cons (ei_int) (ai_cons (ei_int) (ai_cons (ei_int) (ai_cons (ei_op op2_sub (ei_int) (ei_int)) (ai_cons (ei_int) (ai_nil))))))) (ai_nil))) (len_cons (len_cons len_nil)))) (by decide)) (ai_nil))))))
 (bi_nil))
 (bi_one (si_ret (ei_callT opc_tuple (by rfl) T.z_tuple (by decide +kernel) (ai_cons (ei_lc false (own := [("point", 5)]) rfl sc__law_setting.nd (ii_rng1 (by rfl) T.z_range (ai_cons (ei_v 1) (ai_nil))) (blkOk_by (own := [("point", 5)]) (N := N__law_setting) (sc := defScope (topS 28)) (by decide +kernel)) (fun _ _ _ _ _ => gi_n sc__law_setting.nd rfl (by first | exact Or.inl rfl | exact Or.inr rfl)) (fun _ _ _ _ _ => tsi_nil) (fun _ _ _ _ _ => ei_op op2_sub (ei_has h__law_draw hr (by decide) hgd (by rfl) (ai_cons (ei_v 0) (ai_cons (ei_int) (ai_nil))) (len_cons (len_cons len_nil))) (ei_int)) (by decide)) (ai_nil)))))))) ref_gen
theorem has__law_many_right {P : Program} {w : World} {K : Frg} {mg : Str → Option Value} {base : Heap} (T : Top K mg) (h__law_draw : Has P w K mg base 1 "_law_draw" (topS 15) ["heap", "many"] M__law_draw) (h__law_setting : Has P w K mg base 3 "_law_setting" (topS 28) ["heap", "many", "settings"] M__law_setting) (h__law_hull : Has P w K mg base 1 "_law_hull" (topS 18) ["settings"] M__law_hull) (h_hull_rows : Has P w K mg base 1 "hull_rows" (topS 9) ["settings"] M_hull_rows) (h_heaviest : Has P w K mg base 2 "heaviest" (topS 7) ["rows"] M_heaviest) (h_is_setting : Has P w K mg base 2 "is_setting" (topS 6) ["rows", "value"] M_is_setting) (h_mixture : Has P w K mg base 1 "mixture" (topS 10) ["settings", "picks"] M_mixture) (h__law_mixture : Has P w K mg base 1 "_law_mixture" (topS 20) ["settings", "picks"] M__law_mixture) (h__law_keeps : Has P w K mg base 1 "_law_keeps" (topS 19) ["rows", "setting"] M__law_keeps) (h__law_picks_right : Has P w K mg base 4 "_law_picks_right" (topS 23) ["settings", "value"] M__law_picks_right) (h_picks_of : Has P w K mg base 3 "picks_of" (topS 12) ["settings", "value"] M_picks_of) (h__law_pick : Has P w K mg base 2 "_law_pick" (topS 16) ["heap", "some"] M__law_pick) : Has P w K mg base 5 "_law_many_right" (topS 29) ["heap", "many"] M__law_many_right :=
  has_of (N := N__law_many_right) (m := m__law_many_right) T.d__law_many_right sc__law_many_right (fun _ _ _ _ _ _ us hl => match us, hl with | [_, _], _ => rfl) (fun f cdv A outer s H E hr hgd =>
  bi_cons (si_set (i := 2) sc__law_many_right.nd rfl (.inr rfl) (ei_lst (ai_nil)))
 (bi_cons (si_for PassesOwn.never rfl (ii_rng1 (by rfl) T.z_range (ai_cons (ei_op op2_add (ei_int) (ei_has h__law_draw hr (by decide) hgd (by rfl) (ai_cons (ei_v 0) (ai_cons (ei_int) (ai_nil))) (len_cons (len_cons len_nil)))) (ai_nil))) (gi_n sc__law_many_right.nd rfl (by first | exact Or.inl rfl | exact Or.inr rfl))
 (bi_one (si_expr (ei_bm PySem.F.plainAttrs_list PySem.F.slot_list_append PySem.F.type_list_append opm_append (ei_v 2) (ai_cons (ei_has h__law_setting hr (by decide) hgd (by rfl) (ai_cons (ei_v 0) (ai_cons (ei_v 1) (ai_cons (ei_v 2) (ai_nil)))) (len_cons (len_cons (len_cons len_nil)))) (ai_nil))))))
 (bi_cons (si_asg (ei_tup (ai_cons (ei_callT opc_tuple (by rfl) T.z_tuple (by decide +kernel) (ai_cons (ei_v 2) (ai_nil))) (ai_cons (ei_has h__law_hull hr (by decide) hgd (by rfl) (ai_cons (ei_v 2) (ai_nil)) (len_cons len_nil)) (ai_nil)))) (gi_t rfl (gsi_cons (gi_n sc__law_many_right.nd rfl (by first | exact Or.inl rfl | exact Or.inr rfl)) (gsi_cons (gi_n sc__law_many_right.nd rfl (by first | exact Or.inl rfl | exact Or.inr rfl)) (gsi_nil)))))
 (bi_cons (si_if (ti_w (wi_or (ti_cmp (op2_ne hr.units) (ei_callB (opc_repr hgd hr.units) (by rfl) T.z_repr (by decide +kernel) (ai_cons (ei_has h_hull_rows hr (by decide) hgd (by rfl) (ai_cons (ei_v 4) (ai_nil)) (len_cons len_nil)) (ai_nil))) (ei_callB (opc_repr hgd hr.units) (by rfl) T.z_repr (by decide +kernel) (ai_cons (ei_v 5) (ai_nil))) (nomark _)) (wi_or (ti_cmp (op2_ne hr.units) (ei_has h_heaviest hr (by decide) hgd (by rfl) (ai_cons (ei_v 5) (ai_nil)) (len_cons len_nil)) (ei_v 5) (nomark _)) (wi_or1 (ti_not (ti_tru (ei_callB (opc_all rfl) (by rfl) T.z_all (by decide +kernel) (ai_cons (ei_lc false (own := [("some", 12)]) rfl sc__law_many_right.nd (ii_v (ei_v 4)) (blkOk_by (own := [("some", 12)]) (N := N__law_many_right) (sc := defScope (topS 29)) (by decide +kernel)) (fun _ _ _ _ _ => gi_n sc__law_many_right.nd rfl (by first | exact Or.inl rfl | exact Or.inr rfl)) (fun _ _ _ _ _ => tsi_nil) (fun _ _ _ _ _ => ei_has h_is_setting hr (by decide) hgd (by rfl) (ai_cons (ei_v 5) (ai_cons (ei_v 12) (ai_nil))) (len_cons (len_cons len_nil))) (by decide)) (ai_nil)))))))))
 (bi_one (si_ret (ei_bl)))
 (bi_nil))
 (bi_cons (si_set (i := 6) sc__law_many_right.nd rfl (.inl rfl) (ei_lst (ai_nil)))
 (bi_cons (si_for PassesOwn.never rfl (ii_rng1 (by rfl) T.z_range (ai_cons (ei_op op2_add (ei_int) (ei_has h__law_draw hr (by decide) hgd (by rfl) (ai_cons (ei_v 0) (ai_cons (ei_int) (ai_nil))) (len_cons (len_cons len_nil)))) (ai_nil))) (gi_n sc__law_many_right.nd rfl (by first | exact Or.inl rfl | exact Or.inr rfl))
 (bi_cons (si_set (i := 7) sc__law_many_right.nd rfl (.inl rfl) (ei_op op2_add (ei_int) (ei_has h__law_draw hr (by decide) hgd (by rfl) (ai_cons (ei_v 0) (ai_cons (ei_int) (ai_nil))) (len_cons (len_cons len_nil)))))
 (bi_one (si_expr (ei_bm PySem.F.plainAttrs_list PySem.F.slot_list_append PySem.F.type_list_append opm_append (ei_v 6) (ai_cons (ei_callT opc_tuple (by rfl) T.z_tuple (by decide +kernel) (ai_cons (ei_lc false (own := [("pair", 13)]) rfl sc__law_many_right.nd (ii_rng1 (by rfl) T.z_range (ai_cons (ei_v 7) (ai_nil))) (blkOk_by (own := [("pair", 13)]) (N := N__law_many_right) (sc := defScope (topS 29)) (by decide +kernel)) (fun _ _ _ _ _ => gi_n sc__law_many_right.nd rfl (by first | exact Or.inl rfl | exact Or.inr rfl)) (fun _ _ _ _ _ => tsi_nil) (fun _ _ _ _ _ => ei_tup (ai_cons (ei_has h__law_draw hr (by decide) hgd (by rfl) (ai_cons (ei_v 0) (ai_cons (ei_callB opc_len (by rfl) T.z_len (by decide +kernel) (ai_cons (ei_v 2) (ai_nil))) (ai_nil))) (len_cons (len_cons len_nil))) (ai_cons (ei_op op2_sub (ei_has h__law_draw hr (by decide) hgd (by rfl) (ai_cons (ei_v 0) (ai_cons (ei_int) (ai_nil))) (len_cons (len_cons len_nil))) (ei_int)) (ai_nil)))) (by decide)) (ai_nil))) (ai_nil)))))))
 (bi_cons (si_par (i := 8) (j := 9) rfl sc__law_many_right.nd rfl rfl (by decide) rfl rfl (ai_cons (ei_has h__law_mixture hr (by decide) hgd (by rfl) (ai_cons (ei_v 4) (ai_cons (ei_callT opc_tuple (by rfl) T.z_tuple (by decide +kernel) (ai_cons (ei_v 6) (ai_nil))) (ai_nil))) (len_cons (len_cons len_nil))) (ai_cons (ei_has h_mixture hr (by decide) hgd (by rfl) (ai_cons (ei_v 4) (ai_cons (ei_callT opc_tuple (by rfl) T.z_tuple (by decide +kernel) (ai_cons (ei_v 6) (ai_nil))) (ai_nil))) (len_cons (len_cons len_nil))) (ai_nil))) (by rfl))
 (bi_cons (si_if (ti_w (wi_or (ti_cmp (op2_ne hr.units) (ei_callB (opc_repr hgd hr.units) (by rfl) T.z_repr (by decide +kernel) (ai_cons (ei_v 9) (ai_nil))) (ei_callB (opc_repr hgd hr.units) (by rfl) T.z_repr (by decide +kernel) (ai_cons (ei_v 8) (ai_nil))) (nomark _)) (wi_or (ti_cmp (op2_ne hr.units) (ei_hasK0 (ks := ["picks", "settings"]) (ix := [1, 0]) h_mixture hr (by decide) hgd (by rfl) (ki_cons (ei_callT opc_tuple (by rfl) T.z_tuple (by decide +kernel) (ai_cons (ei_v 6) (ai_nil))) (ki_cons (ei_v 4) (ki_nil))) (fun _ _ _ _ _ _ us ws h1 h2 => match us, ws, h1, h2 with | [], [_, _], _, _ => rfl) (len_cons (len_cons len_nil)) (fun l h => match l, h with | [_, _], _ => rfl)) (ei_v 8) (nomark _)) (wi_or1 (ti_not (ti_tru (ei_has h__law_keeps hr (by decide) hgd (by rfl) (ai_cons (ei_v 5) (ai_cons (ei_v 8) (ai_nil))) (len_cons (len_cons len_nil)))))))))
 (bi_one (si_ret (ei_bl)))
 (bi_nil))
 (bi_cons (si_if (ti_w (wi_or (ti_not (ti_tru (ei_has h__law_picks_right hr (by decide) hgd (by rfl) (ai_cons (ei_v 4) (ai_cons (ei_v 8) (ai_nil))) (len_cons (len_cons len_nil))))) (wi_or1 (ti_cmp op2_is (ei_has h_picks_of hr (by decide) hgd (by rfl) (ai_cons (ei_v 4) (ai_cons (ei_v 8) (ai_nil))) (len_cons (len_cons len_nil))) (ei_non) (nomark _)))))
 (bi_one (si_ret (ei_bl)))
 (bi_nil))
 (bi_cons (si_for PassesOwn.never rfl (ii_rng1 (by rfl) T.z_range (ai_cons (ei_v 1) (ai_nil))) (gi_n sc__law_many_right.nd rfl (by first | exact Or.inl rfl | exact Or.inr rfl))
 (bi_cons (si_set (i := 11) sc__law_many_right.nd rfl (.inl rfl) (ei_has h__law_pick hr (by decide) hgd (by rfl) (ai_cons (ei_v 0) (ai_cons (ei_fro (ai_cons (ei_int) (ai_cons (ei_op op2_sub (ei_int) (ei_int)) (ai_cons (ei_int) (ai_cons (ei_op op2_pow (ei_int) (ei_int)) (ai_nil)))))) (ai_nil))) (len_cons (len_cons len_nil))))
 (bi_one (si_if (ti_not (ti_tru (ei_has h__law_picks_right hr (by decide) hgd (by rfl) (ai_cons (ei_v 4) (ai_cons (ei_op op2_add (ei_op op2_add (ei_sl false (ei_v 8) (oi_none) (oi_some (ei_v 10))) (ei_tup (ai_cons (ei_op op2_add (ei_ix (ei_v 8) (ei_v 10)) (ei_v 11)) (ai_nil)))) (ei_sl false (ei_v 8) (oi_some (ei_op op2_add (ei_v 10) (ei_int))) (oi_none))) (ai_nil))) (len_cons (len_cons len_nil)))))
 (bi_one (si_ret (ei_bl)))
 (bi_nil)))))
 (bi_one (si_ret (ei_bl))))))))))))) ref_gen
theorem has_law {P : Program} {w : World} {K : Frg} {mg : Str → Option Value} {base : Heap} (T : Top K mg) (h__law_heap : Has P w K mg base 1 "_law_heap" (topS 14) ["script"] M__law_heap) (h__law_pick : Has P w K mg base 2 "_law_pick" (topS 16) ["heap", "some"] M__law_pick) (h__law_between_right : Has P w K mg base 5 "_law_between_right" (topS 27) ["heap", "many"] M__law_between_right) (h__law_many_right : Has P w K mg base 5 "_law_many_right" (topS 29) ["heap", "many"] M__law_many_right) (h_hull_rows : Has P w K mg base 1 "hull_rows" (topS 9) ["settings"] M_hull_rows) (h_mixture : Has P w K mg base 1 "mixture" (topS 10) ["settings", "picks"] M_mixture) (h_picks_of : Has P w K mg base 3 "picks_of" (topS 12) ["settings", "value"] M_picks_of) (h__law_are_picks : Has P w K mg base 2 "_law_are_picks" (topS 22) ["settings", "value"] M__law_are_picks) : Has P w K mg base 6 "law" (topS 30) ["script"] M_law :=
  has_of (N := N_law) (m := m_law) T.d_law sc_law (fun _ _ _ _ _ _ us hl => match us, hl with | [_], _ => rfl) (fun f cdv A outer s H E hr hgd =>
  bi_cons (si_set (i := 1) sc_law.nd rfl (.inl rfl) (ei_has h__law_heap hr (by decide) hgd (by rfl) (ai_cons (ei_v 0) (ai_nil)) (len_cons len_nil)))
 (bi_cons (si_for PassesOwn.never rfl (ii_rng1 (by rfl) T.z_range (ai_cons (ei_op op2_add (ei_op op2_add (ei_int) (ei_callT opc_int (by rfl) T.z_int (by decide +kernel) (ai_cons (ei_cmp op2_gt (ei_callB opc_len (by rfl) T.z_len (by decide +kernel) (ai_cons (ei_v 0) (ai_nil))) (ei_int) (nomark _)) (ai_nil)))) (ei_callT opc_int (by rfl) T.z_int (by decide +kernel) (ai_cons (ei_cmp op2_gt (ei_callB opc_len (by rfl) T.z_len (by decide +kernel) (ai_cons (ei_v 0) (ai_nil))) (ei_int) (nomark _)) (ai_nil)))) (ai_nil))) (gi_n sc_law.nd rfl (by first | exact Or.inl rfl | exact Or.inr rfl))
 (bi_cons (si_for PassesOwn.never rfl (ii_v (ei_fro (ai_cons (ei_int) (ai_cons (ei_has h__law_pick hr (by decide) hgd (by rfl) (ai_cons (ei_v 1) (ai_cons (ei_fro (ai_cons (ei_int) (ai_cons (ei_int) (ai_cons (ei_int) (ai_nil))))) (ai_nil))) (len_cons (len_cons len_nil))) (ai_nil))))) (gi_n sc_law.nd rfl (by first | exact Or.inl rfl | exact Or.inr rfl))
 (bi_one (si_if (ti_not (ti_tru (ei_has h__law_between_right hr (by decide) hgd (by rfl) (ai_cons (ei_v 1) (ai_cons (ei_v 3) (ai_nil))) (len_cons (len_cons len_nil)))))
 (bi_one (si_ret (ei_bl)))
 (bi_nil))))
 (bi_one (si_for PassesOwn.never rfl (ii_v (ei_fro (ai_cons (ei_has h__law_pick hr (by decide) hgd (by rfl) (ai_cons (ei_v 1) (ai_cons (ei_fro (ai_cons (ei_int) (ai_cons (ei_int) (ai_cons (ei_int) (ai_cons (ei_int) (ai_nil)))))) (ai_nil))) (len_cons (len_cons len_nil))) (ai_cons (ei_has h__law_pick hr (by decide) hgd (by rfl) (ai_cons (ei_v 1) (ai_cons (ei_fro (ai_cons (ei_int) (ai_cons (ei_int) (ai_cons (ei_int) (ai_cons (ei_int) (ai_nil)))))) (ai_nil))) (len_cons (len_cons len_nil))) (ai_nil))))) (gi_n sc_law.nd rfl (by first | exact Or.inl rfl | exact Or.inr rfl))
 (bi_one (si_if (ti_not (ti_tru (ei_has h__law_many_right hr (by decide) hgd (by rfl) (ai_cons (ei_v 1) (ai_cons (ei_v 3) (ai_nil))) (len_cons (len_cons len_nil)))))
 (bi_one (si_ret (ei_bl)))
 (bi_nil)))))))
 (bi_cons (si_set (i := 4) sc_law.nd rfl (.inl rfl) (ei_tup (ai_cons (ei_tup (ai_cons (ei_int) (ai_cons (ei_int) (ai_cons (ei_int) (ai_nil))))) (ai_cons (ei_tup (ai_cons (ei_int) (ai_cons (ei_int) (ai_cons (ei_int) (ai_nil))))) (ai_nil)))))
 (bi_cons (si_if (ti_w (wi_or (ti_cmp (op2_ne hr.units) (ei_has h_hull_rows hr (by decide) hgd (by rfl) (ai_cons (ei_v 4) (ai_nil)) (len_cons len_nil)) (ei_tup (ai_cons (ei_tup (ai_cons (ei_int) (ai_cons (ei_int) (ai_cons (ei_int) (ai_nil))))) (ai_cons (ei_tup (ai_cons (ei_op op2_sub (ei_int) (ei_int)) (ai_cons (ei_int) (ai_cons (ei_int) (ai_nil))))) (ai_cons (ei_tup (ai_cons (ei_op op2_sub (ei_int) (ei_int)) (ai_cons (ei_op op2_sub (ei_int) (ei_int)) (ai_cons (ei_int) (ai_nil))))) (ai_nil))))) (nomark _)) (wi_or1 (ti_cmp (op2_ne hr.units) (ei_has h_mixture hr (by decide) hgd (by rfl) (ai_cons (ei_v 4) (ai_cons (ei_tup (ai_cons (ei_tup (ai_cons (ei_tup (ai_cons (ei_int) (ai_cons (ei_int) (ai_nil)))) (ai_cons (ei_tup (ai_cons (ei_int) (ai_cons (ei_int) (ai_nil)))) (ai_nil)))) (ai_cons (ei_tup (ai_cons (ei_tup (ai_cons (ei_int) (ai_cons (ei_op op2_sub (ei_int) (ei_int)) (ai_nil)))) (ai_nil))) (ai_nil)))) (ai_nil))) (len_cons (len_cons len_nil))) (ei_tup (ai_cons (ei_int) (ai_cons (ei_int) (ai_cons (ei_int) (ai_nil))))) (nomark _)))))
 (bi_one (si_ret (ei_bl)))
 (bi_nil))
 (bi_cons (si_if (ti_w (wi_or (ti_cmp op2_isnot (ei_has h_picks_of hr (by decide) hgd (by rfl) (ai_cons (ei_v 4) (ai_cons (ei_tup (ai_cons (ei_int) (ai_cons (ei_int) (ai_cons (ei_int) (ai_nil))))) (ai_nil))) (len_cons (len_cons len_nil))) (ei_non) (nomark _)) (wi_or (ti_cmp op2_is (ei_has h_picks_of hr (by decide) hgd (by rfl) (ai_cons (ei_v 4) (ai_cons (ei_tup (ai_cons (ei_int) (ai_cons (ei_int) (ai_cons (ei_int) (ai_nil))))) (ai_nil))) (len_cons (len_cons len_nil))) (ei_non) (nomark _)) (wi_or1 (ti_cmp op2_isnot (ei_has h_picks_of hr (by decide) hgd (by rfl) (ai_cons (ei_v 4) (ai_cons (ei_tup (ai_cons (ei_int) (ai_cons (ei_int) (ai_cons (ei_int) (ai_nil))))) (ai_nil))) (len_cons (len_cons len_nil))) (ei_non) (nomark _))))))
 (bi_one (si_ret (ei_bl)))
 (bi_nil))
 (bi_one (si_ret (ei_and (ei_cmp (op2_eq hr.units) (ei_has h_hull_rows hr (by decide) hgd (by rfl) (ai_cons (ei_tup (ai_cons (ei_tup (ai_nil)) (ai_cons (ei_tup (ai_nil)) (ai_nil)))) (ai_nil)) (len_cons len_nil)) (ei_tup (ai_nil)) (nomark _)) (ei_and (ei_cmp (op2_eq hr.units) (ei_has h_mixture hr (by decide) hgd (by rfl) (ai_cons (ei_tup (ai_cons (ei_tup (ai_nil)) (ai_nil))) (ai_cons (ei_tup (ai_cons (ei_tup (ai_cons (ei_tup (ai_cons (ei_int) (ai_cons (ei_int) (ai_nil)))) (ai_nil))) (ai_nil))) (ai_nil))) (len_cons (len_cons len_nil))) (ei_tup (ai_nil)) (nomark _)) (ei_one (ei_has h__law_are_picks hr (by decide) hgd (by rfl) (ai_cons (ei_tup (ai_cons (ei_tup (ai_nil)) (ai_nil))) (ai_cons (ei_has h_picks_of hr (by decide) hgd (by rfl) (ai_cons (ei_tup (ai_cons (ei_tup (ai_nil)) (ai_nil))) (ai_cons (ei_tup (ai_nil)) (ai_nil))) (len_cons (len_cons len_nil))) (ai_nil))) (len_cons (len_cons len_nil))))))))))))) ref_gen
end T17
namespace T17
open PySem PySem.Spec PyProof.Rows L2 Fx
theorem top_mk {K : Frg} {h : Heap} {mg : Str → Option Value} (X : K.In h) (G : h.Ns mainGlobals mg)
    {f16 : Addr} {od16 an16 : Option Addr} {sl16 : Array (Option Value)} {oc16 kV16 dc16 pm16 cd16 ct16 : Value}
    {f17 : Addr} {od17 an17 : Option Addr} {sl17 : Array (Option Value)} {oc17 kV17 dc17 pm17 cd17 ct17 : Value}
    {f18 : Addr} {od18 an18 : Option Addr} {sl18 : Array (Option Value)} {oc18 kV18 dc18 pm18 cd18 ct18 : Value}
    {f19 : Addr} {od19 an19 : Option Addr} {sl19 : Array (Option Value)} {oc19 kV19 dc19 pm19 cd19 ct19 : Value}
    {f20 : Addr} {od20 an20 : Option Addr} {sl20 : Array (Option Value)} {oc20 kV20 dc20 pm20 cd20 ct20 : Value}
    {f21 : Addr} {od21 an21 : Option Addr} {sl21 : Array (Option Value)} {oc21 kV21 dc21 pm21 cd21 ct21 : Value}
    {f22 : Addr} {od22 an22 : Option Addr} {sl22 : Array (Option Value)} {oc22 kV22 dc22 pm22 cd22 ct22 : Value}
    {f23 : Addr} {od23 an23 : Option Addr} {sl23 : Array (Option Value)} {oc23 kV23 dc23 pm23 cd23 ct23 : Value}
    {f24 : Addr} {od24 an24 : Option Addr} {sl24 : Array (Option Value)} {oc24 kV24 dc24 pm24 cd24 ct24 : Value}
    {f25 : Addr} {od25 an25 : Option Addr} {sl25 : Array (Option Value)} {oc25 kV25 dc25 pm25 cd25 ct25 : Value}
    {f26 : Addr} {od26 an26 : Option Addr} {sl26 : Array (Option Value)} {oc26 kV26 dc26 pm26 cd26 ct26 : Value}
    {f27 : Addr} {od27 an27 : Option Addr} {sl27 : Array (Option Value)} {oc27 kV27 dc27 pm27 cd27 ct27 : Value}
    {f28 : Addr} {od28 an28 : Option Addr} {sl28 : Array (Option Value)} {oc28 kV28 dc28 pm28 cd28 ct28 : Value}
    {f29 : Addr} {od29 an29 : Option Addr} {sl29 : Array (Option Value)} {oc29 kV29 dc29 pm29 cd29 ct29 : Value}
    {f30 : Addr} {od30 an30 : Option Addr} {sl30 : Array (Option Value)} {oc30 kV30 dc30 pm30 cd30 ct30 : Value}
    {f31 : Addr} {od31 an31 : Option Addr} {sl31 : Array (Option Value)} {oc31 kV31 dc31 pm31 cd31 ct31 : Value}
    {f32 : Addr} {od32 an32 : Option Addr} {sl32 : Array (Option Value)} {oc32 kV32 dc32 pm32 cd32 ct32 : Value}
    {f33 : Addr} {od33 an33 : Option Addr} {sl33 : Array (Option Value)} {oc33 kV33 dc33 pm33 cd33 ct33 : Value}
    {f34 : Addr} {od34 an34 : Option Addr} {sl34 : Array (Option Value)} {oc34 kV34 dc34 pm34 cd34 ct34 : Value}
    {f35 : Addr} {od35 an35 : Option Addr} {sl35 : Array (Option Value)} {oc35 kV35 dc35 pm35 cd35 ct35 : Value}
    {f36 : Addr} {od36 an36 : Option Addr} {sl36 : Array (Option Value)} {oc36 kV36 dc36 pm36 cd36 ct36 : Value}
    {f37 : Addr} {od37 an37 : Option Addr} {sl37 : Array (Option Value)} {oc37 kV37 dc37 pm37 cd37 ct37 : Value}
    {f38 : Addr} {od38 an38 : Option Addr} {sl38 : Array (Option Value)} {oc38 kV38 dc38 pm38 cd38 ct38 : Value}
    {f39 : Addr} {od39 an39 : Option Addr} {sl39 : Array (Option Value)} {oc39 kV39 dc39 pm39 cd39 ct39 : Value}
    {f40 : Addr} {od40 an40 : Option Addr} {sl40 : Array (Option Value)} {oc40 kV40 dc40 pm40 cd40 ct40 : Value}
    {f41 : Addr} {od41 an41 : Option Addr} {sl41 : Array (Option Value)} {oc41 kV41 dc41 pm41 cd41 ct41 : Value}
    (a1 : PySem.W.nsIn K mainGlobals "abs" = some none)
    (a2 : PySem.W.nsIn K mainGlobals "all" = some none)
    (a3 : PySem.W.nsIn K mainGlobals "bool" = some none)
    (a4 : PySem.W.nsIn K mainGlobals "enumerate" = some none)
    (a5 : PySem.W.nsIn K mainGlobals "int" = some none)
    (a6 : PySem.W.nsIn K mainGlobals "isinstance" = some none)
    (a7 : PySem.W.nsIn K mainGlobals "len" = some none)
    (a8 : PySem.W.nsIn K mainGlobals "list" = some none)
    (a9 : PySem.W.nsIn K mainGlobals "max" = some none)
    (a10 : PySem.W.nsIn K mainGlobals "min" = some none)
    (a11 : PySem.W.nsIn K mainGlobals "range" = some none)
    (a12 : PySem.W.nsIn K mainGlobals "repr" = some none)
    (a13 : PySem.W.nsIn K mainGlobals "sorted" = some none)
    (a14 : PySem.W.nsIn K mainGlobals "tuple" = some none)
    (a15 : PySem.W.nsIn K mainGlobals "zip" = some none)
    (a16 : PySem.W.nsIn K mainGlobals "is_integer" = some (some (.ref f16))) (l16 : K.lookup f16 = some ⟨oc16, od16, .func (PySem.W.fnOf "is_integer" "is_integer" (defArgs (topS 1)) (defBody (topS 1)) (defScope (topS 1)) .none kV16 dc16 pm16 an16 cd16 ct16), sl16⟩) (c16 : PySem.W.codeIn K cd16 "is_integer" = true) (k16 : PySem.W.keepIn K (.ref f16) = true)
    (a17 : PySem.W.nsIn K mainGlobals "greater_entry" = some (some (.ref f17))) (l17 : K.lookup f17 = some ⟨oc17, od17, .func (PySem.W.fnOf "greater_entry" "greater_entry" (defArgs (topS 3)) (defBody (topS 3)) (defScope (topS 3)) .none kV17 dc17 pm17 an17 cd17 ct17), sl17⟩) (c17 : PySem.W.codeIn K cd17 "greater_entry" = true) (k17 : PySem.W.keepIn K (.ref f17) = true)
    (a18 : PySem.W.nsIn K mainGlobals "summed_entry" = some (some (.ref f18))) (l18 : K.lookup f18 = some ⟨oc18, od18, .func (PySem.W.fnOf "summed_entry" "summed_entry" (defArgs (topS 4)) (defBody (topS 4)) (defScope (topS 4)) .none kV18 dc18 pm18 an18 cd18 ct18), sl18⟩) (c18 : PySem.W.codeIn K cd18 "summed_entry" = true) (k18 : PySem.W.keepIn K (.ref f18) = true)
    (a19 : PySem.W.nsIn K mainGlobals "broken_pair" = some (some (.ref f19))) (l19 : K.lookup f19 = some ⟨oc19, od19, .func (PySem.W.fnOf "broken_pair" "broken_pair" (defArgs (topS 5)) (defBody (topS 5)) (defScope (topS 5)) .none kV19 dc19 pm19 an19 cd19 ct19), sl19⟩) (c19 : PySem.W.codeIn K cd19 "broken_pair" = true) (k19 : PySem.W.keepIn K (.ref f19) = true)
    (a20 : PySem.W.nsIn K mainGlobals "is_setting" = some (some (.ref f20))) (l20 : K.lookup f20 = some ⟨oc20, od20, .func (PySem.W.fnOf "is_setting" "is_setting" (defArgs (topS 6)) (defBody (topS 6)) (defScope (topS 6)) .none kV20 dc20 pm20 an20 cd20 ct20), sl20⟩) (c20 : PySem.W.codeIn K cd20 "is_setting" = true) (k20 : PySem.W.keepIn K (.ref f20) = true)
    (a21 : PySem.W.nsIn K mainGlobals "heaviest" = some (some (.ref f21))) (l21 : K.lookup f21 = some ⟨oc21, od21, .func (PySem.W.fnOf "heaviest" "heaviest" (defArgs (topS 7)) (defBody (topS 7)) (defScope (topS 7)) .none kV21 dc21 pm21 an21 cd21 ct21), sl21⟩) (c21 : PySem.W.codeIn K cd21 "heaviest" = true) (k21 : PySem.W.keepIn K (.ref f21) = true)
    (a22 : PySem.W.nsIn K mainGlobals "hull_rows" = some (some (.ref f22))) (l22 : K.lookup f22 = some ⟨oc22, od22, .func (PySem.W.fnOf "hull_rows" "hull_rows" (defArgs (topS 9)) (defBody (topS 9)) (defScope (topS 9)) .none kV22 dc22 pm22 an22 cd22 ct22), sl22⟩) (c22 : PySem.W.codeIn K cd22 "hull_rows" = true) (k22 : PySem.W.keepIn K (.ref f22) = true)
    (a23 : PySem.W.nsIn K mainGlobals "mixture" = some (some (.ref f23))) (l23 : K.lookup f23 = some ⟨oc23, od23, .func (PySem.W.fnOf "mixture" "mixture" (defArgs (topS 10)) (defBody (topS 10)) (defScope (topS 10)) .none kV23 dc23 pm23 an23 cd23 ct23), sl23⟩) (c23 : PySem.W.codeIn K cd23 "mixture" = true) (k23 : PySem.W.keepIn K (.ref f23) = true)
    (a24 : PySem.W.nsIn K mainGlobals "nearest_to" = some (some (.ref f24))) (l24 : K.lookup f24 = some ⟨oc24, od24, .func (PySem.W.fnOf "nearest_to" "nearest_to" (defArgs (topS 11)) (defBody (topS 11)) (defScope (topS 11)) .none kV24 dc24 pm24 an24 cd24 ct24), sl24⟩) (c24 : PySem.W.codeIn K cd24 "nearest_to" = true) (k24 : PySem.W.keepIn K (.ref f24) = true)
    (a25 : PySem.W.nsIn K mainGlobals "picks_of" = some (some (.ref f25))) (l25 : K.lookup f25 = some ⟨oc25, od25, .func (PySem.W.fnOf "picks_of" "picks_of" (defArgs (topS 12)) (defBody (topS 12)) (defScope (topS 12)) .none kV25 dc25 pm25 an25 cd25 ct25), sl25⟩) (c25 : PySem.W.codeIn K cd25 "picks_of" = true) (k25 : PySem.W.keepIn K (.ref f25) = true)
    (a26 : PySem.W.nsIn K mainGlobals "_law_heap" = some (some (.ref f26))) (l26 : K.lookup f26 = some ⟨oc26, od26, .func (PySem.W.fnOf "_law_heap" "_law_heap" (defArgs (topS 14)) (defBody (topS 14)) (defScope (topS 14)) .none kV26 dc26 pm26 an26 cd26 ct26), sl26⟩) (c26 : PySem.W.codeIn K cd26 "_law_heap" = true) (k26 : PySem.W.keepIn K (.ref f26) = true)
    (a27 : PySem.W.nsIn K mainGlobals "_law_draw" = some (some (.ref f27))) (l27 : K.lookup f27 = some ⟨oc27, od27, .func (PySem.W.fnOf "_law_draw" "_law_draw" (defArgs (topS 15)) (defBody (topS 15)) (defScope (topS 15)) .none kV27 dc27 pm27 an27 cd27 ct27), sl27⟩) (c27 : PySem.W.codeIn K cd27 "_law_draw" = true) (k27 : PySem.W.keepIn K (.ref f27) = true)
    (a28 : PySem.W.nsIn K mainGlobals "_law_pick" = some (some (.ref f28))) (l28 : K.lookup f28 = some ⟨oc28, od28, .func (PySem.W.fnOf "_law_pick" "_law_pick" (defArgs (topS 16)) (defBody (topS 16)) (defScope (topS 16)) .none kV28 dc28 pm28 an28 cd28 ct28), sl28⟩) (c28 : PySem.W.codeIn K cd28 "_law_pick" = true) (k28 : PySem.W.keepIn K (.ref f28) = true)
    (a29 : PySem.W.nsIn K mainGlobals "_law_hull" = some (some (.ref f29))) (l29 : K.lookup f29 = some ⟨oc29, od29, .func (PySem.W.fnOf "_law_hull" "_law_hull" (defArgs (topS 18)) (defBody (topS 18)) (defScope (topS 18)) .none kV29 dc29 pm29 an29 cd29 ct29), sl29⟩) (c29 : PySem.W.codeIn K cd29 "_law_hull" = true) (k29 : PySem.W.keepIn K (.ref f29) = true)
    (a30 : PySem.W.nsIn K mainGlobals "_law_keeps" = some (some (.ref f30))) (l30 : K.lookup f30 = some ⟨oc30, od30, .func (PySem.W.fnOf "_law_keeps" "_law_keeps" (defArgs (topS 19)) (defBody (topS 19)) (defScope (topS 19)) .none kV30 dc30 pm30 an30 cd30 ct30), sl30⟩) (c30 : PySem.W.codeIn K cd30 "_law_keeps" = true) (k30 : PySem.W.keepIn K (.ref f30) = true)
    (a31 : PySem.W.nsIn K mainGlobals "_law_mixture" = some (some (.ref f31))) (l31 : K.lookup f31 = some ⟨oc31, od31, .func (PySem.W.fnOf "_law_mixture" "_law_mixture" (defArgs (topS 20)) (defBody (topS 20)) (defScope (topS 20)) .none kV31 dc31 pm31 an31 cd31 ct31), sl31⟩) (c31 : PySem.W.codeIn K cd31 "_law_mixture" = true) (k31 : PySem.W.keepIn K (.ref f31) = true)
    (a32 : PySem.W.nsIn K mainGlobals "_law_is_integer" = some (some (.ref f32))) (l32 : K.lookup f32 = some ⟨oc32, od32, .func (PySem.W.fnOf "_law_is_integer" "_law_is_integer" (defArgs (topS 21)) (defBody (topS 21)) (defScope (topS 21)) .none kV32 dc32 pm32 an32 cd32 ct32), sl32⟩) (c32 : PySem.W.codeIn K cd32 "_law_is_integer" = true) (k32 : PySem.W.keepIn K (.ref f32) = true)
    (a33 : PySem.W.nsIn K mainGlobals "_law_are_picks" = some (some (.ref f33))) (l33 : K.lookup f33 = some ⟨oc33, od33, .func (PySem.W.fnOf "_law_are_picks" "_law_are_picks" (defArgs (topS 22)) (defBody (topS 22)) (defScope (topS 22)) .none kV33 dc33 pm33 an33 cd33 ct33), sl33⟩) (c33 : PySem.W.codeIn K cd33 "_law_are_picks" = true) (k33 : PySem.W.keepIn K (.ref f33) = true)
    (a34 : PySem.W.nsIn K mainGlobals "_law_picks_right" = some (some (.ref f34))) (l34 : K.lookup f34 = some ⟨oc34, od34, .func (PySem.W.fnOf "_law_picks_right" "_law_picks_right" (defArgs (topS 23)) (defBody (topS 23)) (defScope (topS 23)) .none kV34 dc34 pm34 an34 cd34 ct34), sl34⟩) (c34 : PySem.W.codeIn K cd34 "_law_picks_right" = true) (k34 : PySem.W.keepIn K (.ref f34) = true)
    (a35 : PySem.W.nsIn K mainGlobals "_law_level" = some (some (.ref f35))) (l35 : K.lookup f35 = some ⟨oc35, od35, .func (PySem.W.fnOf "_law_level" "_law_level" (defArgs (topS 24)) (defBody (topS 24)) (defScope (topS 24)) .none kV35 dc35 pm35 an35 cd35 ct35), sl35⟩) (c35 : PySem.W.codeIn K cd35 "_law_level" = true) (k35 : PySem.W.keepIn K (.ref f35) = true)
    (a36 : PySem.W.nsIn K mainGlobals "_law_round" = some (some (.ref f36))) (l36 : K.lookup f36 = some ⟨oc36, od36, .func (PySem.W.fnOf "_law_round" "_law_round" (defArgs (topS 25)) (defBody (topS 25)) (defScope (topS 25)) .none kV36 dc36 pm36 an36 cd36 ct36), sl36⟩) (c36 : PySem.W.codeIn K cd36 "_law_round" = true) (k36 : PySem.W.keepIn K (.ref f36) = true)
    (a37 : PySem.W.nsIn K mainGlobals "_law_all" = some (some (.ref f37))) (l37 : K.lookup f37 = some ⟨oc37, od37, .func (PySem.W.fnOf "_law_all" "_law_all" (defArgs (topS 26)) (defBody (topS 26)) (defScope (topS 26)) .none kV37 dc37 pm37 an37 cd37 ct37), sl37⟩) (c37 : PySem.W.codeIn K cd37 "_law_all" = true) (k37 : PySem.W.keepIn K (.ref f37) = true)
    (a38 : PySem.W.nsIn K mainGlobals "_law_between_right" = some (some (.ref f38))) (l38 : K.lookup f38 = some ⟨oc38, od38, .func (PySem.W.fnOf "_law_between_right" "_law_between_right" (defArgs (topS 27)) (defBody (topS 27)) (defScope (topS 27)) .none kV38 dc38 pm38 an38 cd38 ct38), sl38⟩) (c38 : PySem.W.codeIn K cd38 "_law_between_right" = true) (k38 : PySem.W.keepIn K (.ref f38) = true)
    (a39 : PySem.W.nsIn K mainGlobals "_law_setting" = some (some (.ref f39))) (l39 : K.lookup f39 = some ⟨oc39, od39, .func (PySem.W.fnOf "_law_setting" "_law_setting" (defArgs (topS 28)) (defBody (topS 28)) (defScope (topS 28)) .none kV39 dc39 pm39 an39 cd39 ct39), sl39⟩) (c39 : PySem.W.codeIn K cd39 "_law_setting" = true) (k39 : PySem.W.keepIn K (.ref f39) = true)
    (a40 : PySem.W.nsIn K mainGlobals "_law_many_right" = some (some (.ref f40))) (l40 : K.lookup f40 = some ⟨oc40, od40, .func (PySem.W.fnOf "_law_many_right" "_law_many_right" (defArgs (topS 29)) (defBody (topS 29)) (defScope (topS 29)) .none kV40 dc40 pm40 an40 cd40 ct40), sl40⟩) (c40 : PySem.W.codeIn K cd40 "_law_many_right" = true) (k40 : PySem.W.keepIn K (.ref f40) = true)
    (a41 : PySem.W.nsIn K mainGlobals "law" = some (some (.ref f41))) (l41 : K.lookup f41 = some ⟨oc41, od41, .func (PySem.W.fnOf "law" "law" (defArgs (topS 30)) (defBody (topS 30)) (defScope (topS 30)) .none kV41 dc41 pm41 an41 cd41 ct41), sl41⟩) (c41 : PySem.W.codeIn K cd41 "law" = true) (k41 : PySem.W.keepIn K (.ref f41) = true)
    : Top K mg where
  z_abs := PySem.W.mg_none_of X G a1
  z_all := PySem.W.mg_none_of X G a2
  z_bool := PySem.W.mg_none_of X G a3
  z_enumerate := PySem.W.mg_none_of X G a4
  z_int := PySem.W.mg_none_of X G a5
  z_isinstance := PySem.W.mg_none_of X G a6
  z_len := PySem.W.mg_none_of X G a7
  z_list := PySem.W.mg_none_of X G a8
  z_max := PySem.W.mg_none_of X G a9
  z_min := PySem.W.mg_none_of X G a10
  z_range := PySem.W.mg_none_of X G a11
  z_repr := PySem.W.mg_none_of X G a12
  z_sorted := PySem.W.mg_none_of X G a13
  z_tuple := PySem.W.mg_none_of X G a14
  z_zip := PySem.W.mg_none_of X G a15
  d_is_integer := ⟨_, _, fun_mk (st := topS 1) l16 c16 k16, PySem.W.mg_of X G a16⟩
  d_greater_entry := ⟨_, _, fun_mk (st := topS 3) l17 c17 k17, PySem.W.mg_of X G a17⟩
  d_summed_entry := ⟨_, _, fun_mk (st := topS 4) l18 c18 k18, PySem.W.mg_of X G a18⟩
  d_broken_pair := ⟨_, _, fun_mk (st := topS 5) l19 c19 k19, PySem.W.mg_of X G a19⟩
  d_is_setting := ⟨_, _, fun_mk (st := topS 6) l20 c20 k20, PySem.W.mg_of X G a20⟩
  d_heaviest := ⟨_, _, fun_mk (st := topS 7) l21 c21 k21, PySem.W.mg_of X G a21⟩
  d_hull_rows := ⟨_, _, fun_mk (st := topS 9) l22 c22 k22, PySem.W.mg_of X G a22⟩
  d_mixture := ⟨_, _, fun_mk (st := topS 10) l23 c23 k23, PySem.W.mg_of X G a23⟩
  d_nearest_to := ⟨_, _, fun_mk (st := topS 11) l24 c24 k24, PySem.W.mg_of X G a24⟩
  d_picks_of := ⟨_, _, fun_mk (st := topS 12) l25 c25 k25, PySem.W.mg_of X G a25⟩
  d__law_heap := ⟨_, _, fun_mk (st := topS 14) l26 c26 k26, PySem.W.mg_of X G a26⟩
  d__law_draw := ⟨_, _, fun_mk (st := topS 15) l27 c27 k27, PySem.W.mg_of X G a27⟩
  d__law_pick := ⟨_, _, fun_mk (st := topS 16) l28 c28 k28, PySem.W.mg_of X G a28⟩
  d__law_hull := ⟨_, _, fun_mk (st := topS 18) l29 c29 k29, PySem.W.mg_of X G a29⟩
  d__law_keeps := ⟨_, _, fun_mk (st := topS 19) l30 c30 k30, PySem.W.mg_of X G a30⟩
  d__law_mixture := ⟨_, _, fun_mk (st := topS 20) l31 c31 k31, PySem.W.mg_of X G a31⟩
  d__law_is_integer := ⟨_, _, fun_mk (st := topS 21) l32 c32 k32, PySem.W.mg_of X G a32⟩
  d__law_are_picks := ⟨_, _, fun_mk (st := topS 22) l33 c33 k33, PySem.W.mg_of X G a33⟩
  d__law_picks_right := ⟨_, _, fun_mk (st := topS 23) l34 c34 k34, PySem.W.mg_of X G a34⟩
  d__law_level := ⟨_, _, fun_mk (st := topS 24) l35 c35 k35, PySem.W.mg_of X G a35⟩
  d__law_round := ⟨_, _, fun_mk (st := topS 25) l36 c36 k36, PySem.W.mg_of X G a36⟩
  d__law_all := ⟨_, _, fun_mk (st := topS 26) l37 c37 k37, PySem.W.mg_of X G a37⟩
  d__law_between_right := ⟨_, _, fun_mk (st := topS 27) l38 c38 k38, PySem.W.mg_of X G a38⟩
  d__law_setting := ⟨_, _, fun_mk (st := topS 28) l39 c39 k39, PySem.W.mg_of X G a39⟩
  d__law_many_right := ⟨_, _, fun_mk (st := topS 29) l40 c40 k40, PySem.W.mg_of X G a40⟩
  d_law := ⟨_, _, fun_mk (st := topS 30) l41 c41 k41, PySem.W.mg_of X G a41⟩
theorem fun_same {K : Frg} {x q : Str} {st : Stmt} {f : Addr} {fd fd2 : FuncData} (a : Fun K x q st f fd) (b : Fun K x q st f fd2) : fd = fd2 := by
  obtain ⟨_, _, _, _, _, _, _, _, _, _, l1, _⟩ := a.ex
  obtain ⟨_, _, _, _, _, _, _, _, _, _, l2, _⟩ := b.ex
  rw [l1] at l2
  cases l2
  rfl
theorem all_mk {P : Program} {w : World} {K : Frg} {mg : Str → Option Value} {fa : Addr} (hfa : mg "law" = some (.ref fa)) (T : Top K mg) :
    ∃ fd : FuncData, (∀ (s : Shared) (v : Value), BindsTo s fd ⟨[v], []⟩ [("script", v)]) ∧ ∀ base : Heap, FnG P w K mg base 6 fa fd ["script"] (spM K 1 M_law) := by
  obtain ⟨f, fd, Fu, g⟩ := T.d_law
  have e := hfa.symm.trans g
  cases e
  refine ⟨fd, fun s v => ?_, fun base => ?_⟩
  · obtain ⟨oc, od, kV, doc, pm, an, cdv, ct, osl, rfl, lk, hcd⟩ := Fu.ex
    exact .of_eq rfl
  have h_is_integer := has_is_integer (P := P) (w := w) (base := base) T
  have h_greater_entry := has_greater_entry (P := P) (w := w) (base := base) T
  have h_summed_entry := has_summed_entry (P := P) (w := w) (base := base) T
  have h_broken_pair := has_broken_pair (P := P) (w := w) (base := base) T
  have h_is_setting := has_is_setting (P := P) (w := w) (base := base) T h_is_integer h_broken_pair
  have h_heaviest := has_heaviest (P := P) (w := w) (base := base) T h_greater_entry h_summed_entry
  have h_hull_rows := has_hull_rows (P := P) (w := w) (base := base) T
  have h_mixture := has_mixture (P := P) (w := w) (base := base) T
  have h_nearest_to := has_nearest_to (P := P) (w := w) (base := base) T
  have h_picks_of := has_picks_of (P := P) (w := w) (base := base) T h_hull_rows h_is_setting h_nearest_to
  have h__law_heap := has__law_heap (P := P) (w := w) (base := base) T
  have h__law_draw := has__law_draw (P := P) (w := w) (base := base) T
  have h__law_pick := has__law_pick (P := P) (w := w) (base := base) T h__law_draw
  have h__law_hull := has__law_hull (P := P) (w := w) (base := base) T
  have h__law_keeps := has__law_keeps (P := P) (w := w) (base := base) T
  have h__law_mixture := has__law_mixture (P := P) (w := w) (base := base) T
  have h__law_is_integer := has__law_is_integer (P := P) (w := w) (base := base) T
  have h__law_are_picks := has__law_are_picks (P := P) (w := w) (base := base) T h__law_is_integer
  have h__law_picks_right := has__law_picks_right (P := P) (w := w) (base := base) T h_picks_of h__law_hull h__law_keeps h__law_are_picks h__law_mixture h_mixture
  have h__law_level := has__law_level (P := P) (w := w) (base := base) T
  have h__law_round := has__law_round (P := P) (w := w) (base := base) T h__law_level
  have h__law_all := has__law_all (P := P) (w := w) (base := base) T h__law_keeps
  have h__law_between_right := has__law_between_right (P := P) (w := w) (base := base) T h__law_draw h_hull_rows h__law_hull h__law_all h__law_round h__law_picks_right
  have h__law_setting := has__law_setting (P := P) (w := w) (base := base) T h__law_draw h__law_pick
  have h__law_many_right := has__law_many_right (P := P) (w := w) (base := base) T h__law_draw h__law_setting h__law_hull h_hull_rows h_heaviest h_is_setting h_mixture h__law_mixture h__law_keeps h__law_picks_right h_picks_of h__law_pick
  have h_law := has_law (P := P) (w := w) (base := base) T h__law_heap h__law_pick h__law_between_right h__law_many_right h_hull_rows h_mixture h_picks_of h__law_are_picks
  obtain ⟨f2, fd2, Fu2, g2, _, R⟩ := h_law
  have e := g.symm.trans g2
  cases e
  cases fun_same Fu Fu2
  exact R
theorem all_top {l : PySem.W.OpenLaw} {w : World} {K : Frg} {h : Heap} {mg : Str → Option Value} {fa : Addr} (X : K.In h) (G : h.Ns mainGlobals mg) (hfa : mg "law" = some (.ref fa))
    {f16 : Addr} {od16 an16 : Option Addr} {sl16 : Array (Option Value)} {oc16 kV16 dc16 pm16 cd16 ct16 : Value}
    {f17 : Addr} {od17 an17 : Option Addr} {sl17 : Array (Option Value)} {oc17 kV17 dc17 pm17 cd17 ct17 : Value}
    {f18 : Addr} {od18 an18 : Option Addr} {sl18 : Array (Option Value)} {oc18 kV18 dc18 pm18 cd18 ct18 : Value}
    {f19 : Addr} {od19 an19 : Option Addr} {sl19 : Array (Option Value)} {oc19 kV19 dc19 pm19 cd19 ct19 : Value}
    {f20 : Addr} {od20 an20 : Option Addr} {sl20 : Array (Option Value)} {oc20 kV20 dc20 pm20 cd20 ct20 : Value}
    {f21 : Addr} {od21 an21 : Option Addr} {sl21 : Array (Option Value)} {oc21 kV21 dc21 pm21 cd21 ct21 : Value}
    {f22 : Addr} {od22 an22 : Option Addr} {sl22 : Array (Option Value)} {oc22 kV22 dc22 pm22 cd22 ct22 : Value}
    {f23 : Addr} {od23 an23 : Option Addr} {sl23 : Array (Option Value)} {oc23 kV23 dc23 pm23 cd23 ct23 : Value}
    {f24 : Addr} {od24 an24 : Option Addr} {sl24 : Array (Option Value)} {oc24 kV24 dc24 pm24 cd24 ct24 : Value}
    {f25 : Addr} {od25 an25 : Option Addr} {sl25 : Array (Option Value)} {oc25 kV25 dc25 pm25 cd25 ct25 : Value}
    {f26 : Addr} {od26 an26 : Option Addr} {sl26 : Array (Option Value)} {oc26 kV26 dc26 pm26 cd26 ct26 : Value}
    {f27 : Addr} {od27 an27 : Option Addr} {sl27 : Array (Option Value)} {oc27 kV27 dc27 pm27 cd27 ct27 : Value}
    {f28 : Addr} {od28 an28 : Option Addr} {sl28 : Array (Option Value)} {oc28 kV28 dc28 pm28 cd28 ct28 : Value}
    {f29 : Addr} {od29 an29 : Option Addr} {sl29 : Array (Option Value)} {oc29 kV29 dc29 pm29 cd29 ct29 : Value}
    {f30 : Addr} {od30 an30 : Option Addr} {sl30 : Array (Option Value)} {oc30 kV30 dc30 pm30 cd30 ct30 : Value}
    {f31 : Addr} {od31 an31 : Option Addr} {sl31 : Array (Option Value)} {oc31 kV31 dc31 pm31 cd31 ct31 : Value}
    {f32 : Addr} {od32 an32 : Option Addr} {sl32 : Array (Option Value)} {oc32 kV32 dc32 pm32 cd32 ct32 : Value}
    {f33 : Addr} {od33 an33 : Option Addr} {sl33 : Array (Option Value)} {oc33 kV33 dc33 pm33 cd33 ct33 : Value}
    {f34 : Addr} {od34 an34 : Option Addr} {sl34 : Array (Option Value)} {oc34 kV34 dc34 pm34 cd34 ct34 : Value}
    {f35 : Addr} {od35 an35 : Option Addr} {sl35 : Array (Option Value)} {oc35 kV35 dc35 pm35 cd35 ct35 : Value}
    {f36 : Addr} {od36 an36 : Option Addr} {sl36 : Array (Option Value)} {oc36 kV36 dc36 pm36 cd36 ct36 : Value}
    {f37 : Addr} {od37 an37 : Option Addr} {sl37 : Array (Option Value)} {oc37 kV37 dc37 pm37 cd37 ct37 : Value}
    {f38 : Addr} {od38 an38 : Option Addr} {sl38 : Array (Option Value)} {oc38 kV38 dc38 pm38 cd38 ct38 : Value}
    {f39 : Addr} {od39 an39 : Option Addr} {sl39 : Array (Option Value)} {oc39 kV39 dc39 pm39 cd39 ct39 : Value}
    {f40 : Addr} {od40 an40 : Option Addr} {sl40 : Array (Option Value)} {oc40 kV40 dc40 pm40 cd40 ct40 : Value}
    {f41 : Addr} {od41 an41 : Option Addr} {sl41 : Array (Option Value)} {oc41 kV41 dc41 pm41 cd41 ct41 : Value}
    (a1 : PySem.W.nsIn K mainGlobals "abs" = some none)
    (a2 : PySem.W.nsIn K mainGlobals "all" = some none)
    (a3 : PySem.W.nsIn K mainGlobals "bool" = some none)
    (a4 : PySem.W.nsIn K mainGlobals "enumerate" = some none)
    (a5 : PySem.W.nsIn K mainGlobals "int" = some none)
    (a6 : PySem.W.nsIn K mainGlobals "isinstance" = some none)
    (a7 : PySem.W.nsIn K mainGlobals "len" = some none)
    (a8 : PySem.W.nsIn K mainGlobals "list" = some none)
    (a9 : PySem.W.nsIn K mainGlobals "max" = some none)
    (a10 : PySem.W.nsIn K mainGlobals "min" = some none)
    (a11 : PySem.W.nsIn K mainGlobals "range" = some none)
    (a12 : PySem.W.nsIn K mainGlobals "repr" = some none)
    (a13 : PySem.W.nsIn K mainGlobals "sorted" = some none)
    (a14 : PySem.W.nsIn K mainGlobals "tuple" = some none)
    (a15 : PySem.W.nsIn K mainGlobals "zip" = some none)
    (a16 : PySem.W.nsIn K mainGlobals "is_integer" = some (some (.ref f16))) (l16 : K.lookup f16 = some ⟨oc16, od16, .func (PySem.W.fnOf "is_integer" "is_integer" (defArgs (topS 1)) (defBody (topS 1)) (defScope (topS 1)) .none kV16 dc16 pm16 an16 cd16 ct16), sl16⟩) (c16 : PySem.W.codeIn K cd16 "is_integer" = true) (k16 : PySem.W.keepIn K (.ref f16) = true)
    (a17 : PySem.W.nsIn K mainGlobals "greater_entry" = some (some (.ref f17))) (l17 : K.lookup f17 = some ⟨oc17, od17, .func (PySem.W.fnOf "greater_entry" "greater_entry" (defArgs (topS 3)) (defBody (topS 3)) (defScope (topS 3)) .none kV17 dc17 pm17 an17 cd17 ct17), sl17⟩) (c17 : PySem.W.codeIn K cd17 "greater_entry" = true) (k17 : PySem.W.keepIn K (.ref f17) = true)
    (a18 : PySem.W.nsIn K mainGlobals "summed_entry" = some (some (.ref f18))) (l18 : K.lookup f18 = some ⟨oc18, od18, .func (PySem.W.fnOf "summed_entry" "summed_entry" (defArgs (topS 4)) (defBody (topS 4)) (defScope (topS 4)) .none kV18 dc18 pm18 an18 cd18 ct18), sl18⟩) (c18 : PySem.W.codeIn K cd18 "summed_entry" = true) (k18 : PySem.W.keepIn K (.ref f18) = true)
    (a19 : PySem.W.nsIn K mainGlobals "broken_pair" = some (some (.ref f19))) (l19 : K.lookup f19 = some ⟨oc19, od19, .func (PySem.W.fnOf "broken_pair" "broken_pair" (defArgs (topS 5)) (defBody (topS 5)) (defScope (topS 5)) .none kV19 dc19 pm19 an19 cd19 ct19), sl19⟩) (c19 : PySem.W.codeIn K cd19 "broken_pair" = true) (k19 : PySem.W.keepIn K (.ref f19) = true)
    (a20 : PySem.W.nsIn K mainGlobals "is_setting" = some (some (.ref f20))) (l20 : K.lookup f20 = some ⟨oc20, od20, .func (PySem.W.fnOf "is_setting" "is_setting" (defArgs (topS 6)) (defBody (topS 6)) (defScope (topS 6)) .none kV20 dc20 pm20 an20 cd20 ct20), sl20⟩) (c20 : PySem.W.codeIn K cd20 "is_setting" = true) (k20 : PySem.W.keepIn K (.ref f20) = true)
    (a21 : PySem.W.nsIn K mainGlobals "heaviest" = some (some (.ref f21))) (l21 : K.lookup f21 = some ⟨oc21, od21, .func (PySem.W.fnOf "heaviest" "heaviest" (defArgs (topS 7)) (defBody (topS 7)) (defScope (topS 7)) .none kV21 dc21 pm21 an21 cd21 ct21), sl21⟩) (c21 : PySem.W.codeIn K cd21 "heaviest" = true) (k21 : PySem.W.keepIn K (.ref f21) = true)
    (a22 : PySem.W.nsIn K mainGlobals "hull_rows" = some (some (.ref f22))) (l22 : K.lookup f22 = some ⟨oc22, od22, .func (PySem.W.fnOf "hull_rows" "hull_rows" (defArgs (topS 9)) (defBody (topS 9)) (defScope (topS 9)) .none kV22 dc22 pm22 an22 cd22 ct22), sl22⟩) (c22 : PySem.W.codeIn K cd22 "hull_rows" = true) (k22 : PySem.W.keepIn K (.ref f22) = true)
    (a23 : PySem.W.nsIn K mainGlobals "mixture" = some (some (.ref f23))) (l23 : K.lookup f23 = some ⟨oc23, od23, .func (PySem.W.fnOf "mixture" "mixture" (defArgs (topS 10)) (defBody (topS 10)) (defScope (topS 10)) .none kV23 dc23 pm23 an23 cd23 ct23), sl23⟩) (c23 : PySem.W.codeIn K cd23 "mixture" = true) (k23 : PySem.W.keepIn K (.ref f23) = true)
    (a24 : PySem.W.nsIn K mainGlobals "nearest_to" = some (some (.ref f24))) (l24 : K.lookup f24 = some ⟨oc24, od24, .func (PySem.W.fnOf "nearest_to" "nearest_to" (defArgs (topS 11)) (defBody (topS 11)) (defScope (topS 11)) .none kV24 dc24 pm24 an24 cd24 ct24), sl24⟩) (c24 : PySem.W.codeIn K cd24 "nearest_to" = true) (k24 : PySem.W.keepIn K (.ref f24) = true)
    (a25 : PySem.W.nsIn K mainGlobals "picks_of" = some (some (.ref f25))) (l25 : K.lookup f25 = some ⟨oc25, od25, .func (PySem.W.fnOf "picks_of" "picks_of" (defArgs (topS 12)) (defBody (topS 12)) (defScope (topS 12)) .none kV25 dc25 pm25 an25 cd25 ct25), sl25⟩) (c25 : PySem.W.codeIn K cd25 "picks_of" = true) (k25 : PySem.W.keepIn K (.ref f25) = true)
    (a26 : PySem.W.nsIn K mainGlobals "_law_heap" = some (some (.ref f26))) (l26 : K.lookup f26 = some ⟨oc26, od26, .func (PySem.W.fnOf "_law_heap" "_law_heap" (defArgs (topS 14)) (defBody (topS 14)) (defScope (topS 14)) .none kV26 dc26 pm26 an26 cd26 ct26), sl26⟩) (c26 : PySem.W.codeIn K cd26 "_law_heap" = true) (k26 : PySem.W.keepIn K (.ref f26) = true)
    (a27 : PySem.W.nsIn K mainGlobals "_law_draw" = some (some (.ref f27))) (l27 : K.lookup f27 = some ⟨oc27, od27, .func (PySem.W.fnOf "_law_draw" "_law_draw" (defArgs (topS 15)) (defBody (topS 15)) (defScope (topS 15)) .none kV27 dc27 pm27 an27 cd27 ct27), sl27⟩) (c27 : PySem.W.codeIn K cd27 "_law_draw" = true) (k27 : PySem.W.keepIn K (.ref f27) = true)
    (a28 : PySem.W.nsIn K mainGlobals "_law_pick" = some (some (.ref f28))) (l28 : K.lookup f28 = some ⟨oc28, od28, .func (PySem.W.fnOf "_law_pick" "_law_pick" (defArgs (topS 16)) (defBody (topS 16)) (defScope (topS 16)) .none kV28 dc28 pm28 an28 cd28 ct28), sl28⟩) (c28 : PySem.W.codeIn K cd28 "_law_pick" = true) (k28 : PySem.W.keepIn K (.ref f28) = true)
    (a29 : PySem.W.nsIn K mainGlobals "_law_hull" = some (some (.ref f29))) (l29 : K.lookup f29 = some ⟨oc29, od29, .func (PySem.W.fnOf "_law_hull" "_law_hull" (defArgs (topS 18)) (defBody (topS 18)) (defScope (topS 18)) .none kV29 dc29 pm29 an29 cd29 ct29), sl29⟩) (c29 : PySem.W.codeIn K cd29 "_law_hull" = true) (k29 : PySem.W.keepIn K (.ref f29) = true)
    (a30 : PySem.W.nsIn K mainGlobals "_law_keeps" = some (some (.ref f30))) (l30 : K.lookup f30 = some ⟨oc30, od30, .func (PySem.W.fnOf "_law_keeps" "_law_keeps" (defArgs (topS 19)) (defBody (topS 19)) (defScope (topS 19)) .none kV30 dc30 pm30 an30 cd30 ct30), sl30⟩) (c30 : PySem.W.codeIn K cd30 "_law_keeps" = true) (k30 : PySem.W.keepIn K (.ref f30) = true)
    (a31 : PySem.W.nsIn K mainGlobals "_law_mixture" = some (some (.ref f31))) (l31 : K.lookup f31 = some ⟨oc31, od31, .func (PySem.W.fnOf "_law_mixture" "_law_mixture" (defArgs (topS 20)) (defBody (topS 20)) (defScope (topS 20)) .none kV31 dc31 pm31 an31 cd31 ct31), sl31⟩) (c31 : PySem.W.codeIn K cd31 "_law_mixture" = true) (k31 : PySem.W.keepIn K (.ref f31) = true)
    (a32 : PySem.W.nsIn K mainGlobals "_law_is_integer" = some (some (.ref f32))) (l32 : K.lookup f32 = some ⟨oc32, od32, .func (PySem.W.fnOf "_law_is_integer" "_law_is_integer" (defArgs (topS 21)) (defBody (topS 21)) (defScope (topS 21)) .none kV32 dc32 pm32 an32 cd32 ct32), sl32⟩) (c32 : PySem.W.codeIn K cd32 "_law_is_integer" = true) (k32 : PySem.W.keepIn K (.ref f32) = true)
    (a33 : PySem.W.nsIn K mainGlobals "_law_are_picks" = some (some (.ref f33))) (l33 : K.lookup f33 = some ⟨oc33, od33, .func (PySem.W.fnOf "_law_are_picks" "_law_are_picks" (defArgs (topS 22)) (defBody (topS 22)) (defScope (topS 22)) .none kV33 dc33 pm33 an33 cd33 ct33), sl33⟩) (c33 : PySem.W.codeIn K cd33 "_law_are_picks" = true) (k33 : PySem.W.keepIn K (.ref f33) = true)
    (a34 : PySem.W.nsIn K mainGlobals "_law_picks_right" = some (some (.ref f34))) (l34 : K.lookup f34 = some ⟨oc34, od34, .func (PySem.W.fnOf "_law_picks_right" "_law_picks_right" (defArgs (topS 23)) (defBody (topS 23)) (defScope (topS 23)) .none kV34 dc34 pm34 an34 cd34 ct34), sl34⟩) (c34 : PySem.W.codeIn K cd34 "_law_picks_right" = true) (k34 : PySem.W.keepIn K (.ref f34) = true)
    (a35 : PySem.W.nsIn K mainGlobals "_law_level" = some (some (.ref f35))) (l35 : K.lookup f35 = some ⟨oc35, od35, .func (PySem.W.fnOf "_law_level" "_law_level" (defArgs (topS 24)) (defBody (topS 24)) (defScope (topS 24)) .none kV35 dc35 pm35 an35 cd35 ct35), sl35⟩) (c35 : PySem.W.codeIn K cd35 "_law_level" = true) (k35 : PySem.W.keepIn K (.ref f35) = true)
    (a36 : PySem.W.nsIn K mainGlobals "_law_round" = some (some (.ref f36))) (l36 : K.lookup f36 = some ⟨oc36, od36, .func (PySem.W.fnOf "_law_round" "_law_round" (defArgs (topS 25)) (defBody (topS 25)) (defScope (topS 25)) .none kV36 dc36 pm36 an36 cd36 ct36), sl36⟩) (c36 : PySem.W.codeIn K cd36 "_law_round" = true) (k36 : PySem.W.keepIn K (.ref f36) = true)
    (a37 : PySem.W.nsIn K mainGlobals "_law_all" = some (some (.ref f37))) (l37 : K.lookup f37 = some ⟨oc37, od37, .func (PySem.W.fnOf "_law_all" "_law_all" (defArgs (topS 26)) (defBody (topS 26)) (defScope (topS 26)) .none kV37 dc37 pm37 an37 cd37 ct37), sl37⟩) (c37 : PySem.W.codeIn K cd37 "_law_all" = true) (k37 : PySem.W.keepIn K (.ref f37) = true)
    (a38 : PySem.W.nsIn K mainGlobals "_law_between_right" = some (some (.ref f38))) (l38 : K.lookup f38 = some ⟨oc38, od38, .func (PySem.W.fnOf "_law_between_right" "_law_between_right" (defArgs (topS 27)) (defBody (topS 27)) (defScope (topS 27)) .none kV38 dc38 pm38 an38 cd38 ct38), sl38⟩) (c38 : PySem.W.codeIn K cd38 "_law_between_right" = true) (k38 : PySem.W.keepIn K (.ref f38) = true)
    (a39 : PySem.W.nsIn K mainGlobals "_law_setting" = some (some (.ref f39))) (l39 : K.lookup f39 = some ⟨oc39, od39, .func (PySem.W.fnOf "_law_setting" "_law_setting" (defArgs (topS 28)) (defBody (topS 28)) (defScope (topS 28)) .none kV39 dc39 pm39 an39 cd39 ct39), sl39⟩) (c39 : PySem.W.codeIn K cd39 "_law_setting" = true) (k39 : PySem.W.keepIn K (.ref f39) = true)
    (a40 : PySem.W.nsIn K mainGlobals "_law_many_right" = some (some (.ref f40))) (l40 : K.lookup f40 = some ⟨oc40, od40, .func (PySem.W.fnOf "_law_many_right" "_law_many_right" (defArgs (topS 29)) (defBody (topS 29)) (defScope (topS 29)) .none kV40 dc40 pm40 an40 cd40 ct40), sl40⟩) (c40 : PySem.W.codeIn K cd40 "_law_many_right" = true) (k40 : PySem.W.keepIn K (.ref f40) = true)
    (a41 : PySem.W.nsIn K mainGlobals "law" = some (some (.ref f41))) (l41 : K.lookup f41 = some ⟨oc41, od41, .func (PySem.W.fnOf "law" "law" (defArgs (topS 30)) (defBody (topS 30)) (defScope (topS 30)) .none kV41 dc41 pm41 an41 cd41 ct41), sl41⟩) (c41 : PySem.W.codeIn K cd41 "law" = true) (k41 : PySem.W.keepIn K (.ref f41) = true)
    : ∃ fd : FuncData, (∀ (s : Shared) (v : Value), BindsTo s fd ⟨[v], []⟩ [("script", v)]) ∧ ∀ base : Heap, K.In base → base.Ns mainGlobals mg → FnG l.prog w K mg base 6 fa fd ["script"] (spM K 1 M_law) := by
  obtain ⟨fd, hb, hG⟩ := all_mk (P := l.prog) (w := w) hfa (top_mk X G a1 a2 a3 a4 a5 a6 a7 a8 a9 a10 a11 a12 a13 a14 a15 a16 l16 c16 k16 a17 l17 c17 k17 a18 l18 c18 k18 a19 l19 c19 k19 a20 l20 c20 k20 a21 l21 c21 k21 a22 l22 c22 k22 a23 l23 c23 k23 a24 l24 c24 k24 a25 l25 c25 k25 a26 l26 c26 k26 a27 l27 c27 k27 a28 l28 c28 k28 a29 l29 c29 k29 a30 l30 c30 k30 a31 l31 c31 k31 a32 l32 c32 k32 a33 l33 c33 k33 a34 l34 c34 k34 a35 l35 c35 k35 a36 l36 c36 k36 a37 l37 c37 k37 a38 l38 c38 k38 a39 l39 c39 k39 a40 l40 c40 k40 a41 l41 c41 k41)
  exact ⟨fd, hb, fun base _ _ => hG base⟩
end T17
open PySem PySem.W PyProof.Rows
set_option maxHeartbeats 0 in
theorem PySem.Challenge.cw_heldalways_k17_whole_settings_mixed_of_o_holds : PySem.Challenge.rw_heldalways_k17_whole_settings_mixed_of_o.Holds := by
  w_on; o_law; k_head; (case hw => w_witness2)
  k_fill
  refine Fx.walkG (l := PySem.Challenge.rw_heldalways_k17_whole_settings_mixed_of_o) (n := 63) (k := 6) (x := "script") (M := T17.M_law) rfl (by decide) rfl ⟨rfl, by decide, by decide⟩ (fun w h Y => PySem.W.kIn_of Y) ?F (fun ns _ => T17.law_run ns)
  case F =>
    intro w mg fa h KX G hmg
    refine' T17.all_top KX G hmg ?a1 ?a2 ?a3 ?a4 ?a5 ?a6 ?a7 ?a8 ?a9 ?a10 ?a11 ?a12 ?a13 ?a14 ?a15 ?a16 ?l16 ?c16 ?k16 ?a17 ?l17 ?c17 ?k17 ?a18 ?l18 ?c18 ?k18 ?a19 ?l19 ?c19 ?k19 ?a20 ?l20 ?c20 ?k20 ?a21 ?l21 ?c21 ?k21 ?a22 ?l22 ?c22 ?k22 ?a23 ?l23 ?c23 ?k23 ?a24 ?l24 ?c24 ?k24 ?a25 ?l25 ?c25 ?k25 ?a26 ?l26 ?c26 ?k26 ?a27 ?l27 ?c27 ?k27 ?a28 ?l28 ?c28 ?k28 ?a29 ?l29 ?c29 ?k29 ?a30 ?l30 ?c30 ?k30 ?a31 ?l31 ?c31 ?k31 ?a32 ?l32 ?c32 ?k32 ?a33 ?l33 ?c33 ?k33 ?a34 ?l34 ?c34 ?k34 ?a35 ?l35 ?c35 ?k35 ?a36 ?l36 ?c36 ?k36 ?a37 ?l37 ?c37 ?k37 ?a38 ?l38 ?c38 ?k38 ?a39 ?l39 ?c39 ?k39 ?a40 ?l40 ?c40 ?k40 ?a41 ?l41 ?c41 ?k41
    (case a1 => k_is)
    (case a2 => k_is)
    (case a3 => k_is)
    (case a4 => k_is)
    (case a5 => k_is)
    (case a6 => k_is)
    (case a7 => k_is)
    (case a8 => k_is)
    (case a9 => k_is)
    (case a10 => k_is)
    (case a11 => k_is)
    (case a12 => k_is)
    (case a13 => k_is)
    (case a14 => k_is)
    (case a15 => k_is)
    (case a16 => k_is)
    (case l16 => k_is)
    (case c16 => k_is)
    (case k16 => k_is)
    (case a17 => k_is)
    (case l17 => k_is)
    (case c17 => k_is)
    (case k17 => k_is)
    (case a18 => k_is)
    (case l18 => k_is)
    (case c18 => k_is)
    (case k18 => k_is)
    (case a19 => k_is)
    (case l19 => k_is)
    (case c19 => k_is)
    (case k19 => k_is)
    (case a20 => k_is)
    (case l20 => k_is)
    (case c20 => k_is)
    (case k20 => k_is)
    (case a21 => k_is)
    (case l21 => k_is)
    (case c21 => k_is)
    (case k21 => k_is)
    (case a22 => k_is)
    (case l22 => k_is)
    (case c22 => k_is)
    (case k22 => k_is)
    (case a23 => k_is)
    (case l23 => k_is)
    (case c23 => k_is)
    (case k23 => k_is)
    (case a24 => k_is)
    (case l24 => k_is)
    (case c24 => k_is)
    (case k24 => k_is)
    (case a25 => k_is)
    (case l25 => k_is)
    (case c25 => k_is)
    (case k25 => k_is)
    (case a26 => k_is)
    (case l26 => k_is)
    (case c26 => k_is)
    (case k26 => k_is)
    (case a27 => k_is)
    (case l27 => k_is)
    (case c27 => k_is)
    (case k27 => k_is)
    (case a28 => k_is)
    (case l28 => k_is)
    (case c28 => k_is)
    (case k28 => k_is)
    (case a29 => k_is)
    (case l29 => k_is)
    (case c29 => k_is)
    (case k29 => k_is)
    (case a30 => k_is)
    (case l30 => k_is)
    (case c30 => k_is)
    (case k30 => k_is)
    (case a31 => k_is)
    (case l31 => k_is)
    (case c31 => k_is)
    (case k31 => k_is)
    (case a32 => k_is)
    (case l32 => k_is)
    (case c32 => k_is)
    (case k32 => k_is)
    (case a33 => k_is)
    (case l33 => k_is)
    (case c33 => k_is)
    (case k33 => k_is)
    (case a34 => k_is)
    (case l34 => k_is)
    (case c34 => k_is)
    (case k34 => k_is)
    (case a35 => k_is)
    (case l35 => k_is)
    (case c35 => k_is)
    (case k35 => k_is)
    (case a36 => k_is)
    (case l36 => k_is)
    (case c36 => k_is)
    (case k36 => k_is)
    (case a37 => k_is)
    (case l37 => k_is)
    (case c37 => k_is)
    (case k37 => k_is)
    (case a38 => k_is)
    (case l38 => k_is)
    (case c38 => k_is)
    (case k38 => k_is)
    (case a39 => k_is)
    (case l39 => k_is)
    (case c39 => k_is)
    (case k39 => k_is)
    (case a40 => k_is)
    (case l40 => k_is)
    (case c40 => k_is)
    (case k40 => k_is)
    (case a41 => k_is)
    (case l41 => k_is)
    (case c41 => k_is)
    (case k41 => k_is)
