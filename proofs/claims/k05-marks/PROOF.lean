import PyProof.Rows.All
import Wide.All
import OpenK.AllK
import Wide.FinOn
import HandS.ForMost
import HandS.TupAny
import HandS.Walk
import HandS.Deep
import HandS.Style
import HandS.Text
import HandS.TupMul
import PyProof.StrOps2
import PyProof.ReprReads
import PyProof.ReprRoads
import HandS.Zip
import HandS.Iter
import HandS.ReplaceLit
import HandS.ReplaceList
import PySem.Challenge.RW_heldalways_k05_marks_of_texts
set_option Elab.async false
set_option linter.all false
set_option maxRecDepth 100000
set_option maxHeartbeats 4000000
/-! A by-value reading of the hand layer: values are trees, only lists that change stand in a store. -/
namespace Fx
open PySem PySem.Spec PyProof.Rows L2

inductive Val where
  | non
  | bl (b : Bool)
  | int (i : Int)
  | str (x : Str)
  | tup (l : List Val)
  | fro (l : List Val)
  | scr (l : List Val)
  | ref (i : Nat)
  | obj (C : Addr) (ks : List Str) (vs : List Val)
  | raw (v : V)

inductive Cell where
  | lst (l : List Val)
  | ins (C : Addr) (ks : List Str) (vs : List Val)

abbrev Store := List Cell
abbrev Frg := PySem.W.Frag

def Scr (K : Frg) (H : Hp) (a : Addr) (xs : List V) : Prop :=
  (∃ o, H a = some (.frz o (.lst xs))) ∨
    ∃ (o : Obj) (its : Array Value) (n : Nat), K.lookup a = some o ∧ o.cls = .type "list" ∧ o.dict = none ∧ o.data = .seq its n ∧ its.size ≤ sizeLine ∧ Vals xs its.toList
theorem Scr.sq {K : Frg} {H : Hp} {a : Addr} {xs : List V} (h : Scr K H a xs) : SqL K H a xs := by
  rcases h with ⟨o, h⟩ | h
  · exact .inl (.inr ⟨o, h⟩)
  · exact .inr h

mutual
def RV (K : Frg) (F : List Addr) (φ : List Addr) (H : Hp) : Val → V → Prop
  | .non, v => v = .non
  | .bl b, v => v = .bl b
  | .int i, v => v = .int i
  | .str x, v => v = .str x
  | .tup l, v => ∃ a xs, v = .ref a ∧ SqT K H a xs ∧ RVs K F φ H l xs
  | .fro l, v => ∃ a xs, v = .ref a ∧ a ∉ φ ∧ a ∉ F ∧ H a = some (.lst xs) ∧ RVs K F φ H l xs
  | .scr l, v => ∃ a xs, v = .ref a ∧ Scr K H a xs ∧ RVs K F φ H l xs
  | .ref i, v => ∃ a, v = .ref a ∧ φ[i]? = some a
  | .obj C ks vs, v => ∃ a dx gs, v = .ref a ∧ a ∉ φ ∧ a ∉ F ∧ H a = some (.ins C dx gs) ∧ gs.map (·.1) = ks ∧ RVs K F φ H vs (gs.map (·.2))
  | .raw w, v => v = w
def RVs (K : Frg) (F : List Addr) (φ : List Addr) (H : Hp) : List Val → List V → Prop
  | [], xs => xs = []
  | d :: ds, xs => ∃ v vs, xs = v :: vs ∧ RV K F φ H d v ∧ RVs K F φ H ds vs
end

structure Ext (φ : List Addr) (H : Hp) (φ' : List Addr) (H' : Hp) : Prop where
  pre : ∃ ψ, φ' = φ ++ ψ ∧ ∀ a ∈ ψ, H a = none
  old : ∀ a o, H a = some o → a ∉ φ → H' a = some o
  there : ∀ a o, H a = some o → ∃ o', H' a = some o'
  tup : ∀ a xs, H a = some (.tup xs) → H' a = some (.tup xs)
  frz : ∀ a o u, H a = some (.frz o u) → H' a = some (.frz o u)

section
variable {K : Frg} {F φ φ' φ'' : List Addr} {H H' H'' : Hp}
theorem Ext.refl : Ext φ H φ H := ⟨⟨[], by simp, by simp⟩, fun _ _ h _ => h, fun _ o h => ⟨o, h⟩, fun _ _ h => h, fun _ _ _ h => h⟩
theorem Ext.nin (e : Ext φ H φ' H') {a : Addr} {o : HO} (h : H a = some o) (n : a ∉ φ) : a ∉ φ' := by
  obtain ⟨ψ, e1, e2⟩ := e.pre
  rw [e1]
  intro hm
  rcases List.mem_append.mp hm with hm | hm
  · exact n hm
  · rw [e2 a hm] at h
    cases h
theorem Ext.trans (e : Ext φ H φ' H') (f : Ext φ' H' φ'' H'') : Ext φ H φ'' H'' := by
  obtain ⟨ψ, e1, e2⟩ := e.pre
  obtain ⟨χ, f1, f2⟩ := f.pre
  refine ⟨⟨ψ ++ χ, by rw [f1, e1, List.append_assoc], fun a ha => ?_⟩, fun a o h n => f.old a o (e.old a o h n) (e.nin h n), fun a o h => ?_, fun a xs h => f.tup a xs (e.tup a xs h), fun a o u h => f.frz a o u (e.frz a o u h)⟩
  · rcases List.mem_append.mp ha with ha | ha
    · exact e2 a ha
    · cases q : H a with
      | none => rfl
      | some o =>
        obtain ⟨o', h'⟩ := e.there a o q
        rw [f2 a ha] at h'
        cases h'
  · obtain ⟨o', h'⟩ := e.there a o h
    exact f.there a o' h'
theorem Ext.at (e : Ext φ H φ' H') {i : Nat} {a : Addr} (h : φ[i]? = some a) : φ'[i]? = some a := by
  obtain ⟨ψ, e1, _⟩ := e.pre
  rw [e1, List.getElem?_append_left (List.getElem?_eq_some_iff.mp h).1]
  exact h
theorem Ext.sqT (e : Ext φ H φ' H') {a : Addr} {xs : List V} (h : SqT K H a xs) : SqT K H' a xs := by
  rcases h with (h | ⟨o, h⟩) | h
  · exact .inl (.inl (e.tup _ _ h))
  · exact .inl (.inr ⟨o, e.frz _ _ _ h⟩)
  · exact .inr h
theorem Ext.scr (e : Ext φ H φ' H') {a : Addr} {xs : List V} (h : Scr K H a xs) : Scr K H' a xs := by
  rcases h with ⟨o, h⟩ | h
  · exact .inl ⟨o, e.frz _ _ _ h⟩
  · exact .inr h
mutual
theorem RV.mono (e : Ext φ H φ' H') : ∀ (d : Val) (v : V), RV K F φ H d v → RV K F φ' H' d v
  | .non, v, h => by unfold RV at h ⊢; exact h
  | .bl b, v, h => by unfold RV at h ⊢; exact h
  | .int i, v, h => by unfold RV at h ⊢; exact h
  | .str x, v, h => by unfold RV at h ⊢; exact h
  | .raw w, v, h => by unfold RV at h ⊢; exact h
  | .tup l, v, h => by
    unfold RV at h ⊢
    obtain ⟨a, xs, h1, h2, h3⟩ := h
    exact ⟨a, xs, h1, e.sqT h2, RVs.mono e l xs h3⟩
  | .fro l, v, h => by
    unfold RV at h ⊢
    obtain ⟨a, xs, h1, h2, h4, h5, h3⟩ := h
    exact ⟨a, xs, h1, e.nin h5 h2, h4, e.old a _ h5 h2, RVs.mono e l xs h3⟩
  | .scr l, v, h => by
    unfold RV at h ⊢
    obtain ⟨a, xs, h1, h2, h3⟩ := h
    exact ⟨a, xs, h1, e.scr h2, RVs.mono e l xs h3⟩
  | .ref i, v, h => by
    unfold RV at h ⊢
    obtain ⟨a, h1, h2⟩ := h
    exact ⟨a, h1, e.at h2⟩
  | .obj C ks vs, v, h => by
    unfold RV at h ⊢
    obtain ⟨a, dx, gs, h1, h2, h4, h5, h6, h3⟩ := h
    exact ⟨a, dx, gs, h1, e.nin h5 h2, h4, e.old a _ h5 h2, h6, RVs.mono e vs _ h3⟩
theorem RVs.mono (e : Ext φ H φ' H') : ∀ (ds : List Val) (vs : List V), RVs K F φ H ds vs → RVs K F φ' H' ds vs
  | [], vs, h => by unfold RVs at h ⊢; exact h
  | d :: ds, vs, h => by
    unfold RVs at h ⊢
    obtain ⟨v, ws, h1, h2, h3⟩ := h
    exact ⟨v, ws, h1, RV.mono e d v h2, RVs.mono e ds ws h3⟩
end
theorem RVs.nil : RVs K F φ H [] [] := by unfold RVs; rfl
theorem RVs.cons {d : Val} {v : V} {ds : List Val} {vs : List V} (h : RV K F φ H d v) (t : RVs K F φ H ds vs) : RVs K F φ H (d :: ds) (v :: vs) := by
  unfold RVs
  exact ⟨v, vs, rfl, h, t⟩
theorem RVs.inv {d : Val} {ds : List Val} {xs : List V} (h : RVs K F φ H (d :: ds) xs) : ∃ v vs, xs = v :: vs ∧ RV K F φ H d v ∧ RVs K F φ H ds vs := by
  unfold RVs at h
  exact h
theorem RVs.inv0 {xs : List V} (h : RVs K F φ H [] xs) : xs = [] := by
  unfold RVs at h
  exact h
theorem RVs.length : ∀ {ds : List Val} {vs : List V}, RVs K F φ H ds vs → vs.length = ds.length
  | [], vs, h => by rw [h.inv0]; rfl
  | d :: ds, vs, h => by
    obtain ⟨v, ws, h1, h2, h3⟩ := h.inv
    rw [h1, List.length_cons, List.length_cons, RVs.length h3]
theorem RVs.get : ∀ {ds : List Val} {vs : List V} {i : Nat} {d : Val}, RVs K F φ H ds vs → ds[i]? = some d → ∃ v, vs[i]? = some v ∧ RV K F φ H d v
  | [], vs, i, d, h, q => by simp at q
  | e :: ds, vs, 0, d, h, q => by
    obtain ⟨v, ws, h1, h2, h3⟩ := h.inv
    simp at q
    subst q
    exact ⟨v, by rw [h1]; rfl, h2⟩
  | e :: ds, vs, i + 1, d, h, q => by
    obtain ⟨v, ws, h1, h2, h3⟩ := h.inv
    simp at q
    obtain ⟨u, q1, q2⟩ := RVs.get h3 q
    exact ⟨u, by rw [h1]; simpa using q1, q2⟩
theorem RVs.get' {ds : List Val} {vs : List V} {i : Nat} {v : V} (h : RVs K F φ H ds vs) (q : vs[i]? = some v) : ∃ d, ds[i]? = some d ∧ RV K F φ H d v := by
  have hl := h.length
  have hi := (List.getElem?_eq_some_iff.mp q).1
  have q1 : ds[i]? = some ds[i] := List.getElem?_eq_getElem (by omega)
  obtain ⟨u, q2, q3⟩ := h.get q1
  rw [q] at q2
  cases q2
  exact ⟨_, q1, q3⟩
theorem RVs.append : ∀ {ds es : List Val} {vs ws : List V}, RVs K F φ H ds vs → RVs K F φ H es ws → RVs K F φ H (ds ++ es) (vs ++ ws)
  | [], es, vs, ws, h, g => by
    rw [h.inv0]
    exact g
  | d :: ds, es, vs, ws, h, g => by
    obtain ⟨v, us, h1, h2, h3⟩ := h.inv
    rw [h1]
    exact .cons h2 (RVs.append h3 g)
theorem RVs.take : ∀ {ds : List Val} {vs : List V} (n : Nat), RVs K F φ H ds vs → RVs K F φ H (ds.take n) (vs.take n)
  | ds, vs, 0, h => RVs.nil
  | [], vs, n + 1, h => by
    rw [h.inv0]
    exact RVs.nil
  | d :: ds, vs, n + 1, h => by
    obtain ⟨v, us, h1, h2, h3⟩ := h.inv
    rw [h1]
    exact .cons h2 (RVs.take n h3)
theorem RVs.drop : ∀ {ds : List Val} {vs : List V} (n : Nat), RVs K F φ H ds vs → RVs K F φ H (ds.drop n) (vs.drop n)
  | ds, vs, 0, h => h
  | [], vs, n + 1, h => by
    rw [h.inv0]
    exact RVs.nil
  | d :: ds, vs, n + 1, h => by
    obtain ⟨v, us, h1, h2, h3⟩ := h.inv
    rw [h1]
    exact RVs.drop n h3
theorem RVs.set {d : Val} {v : V} (r : RV K F φ H d v) : ∀ {ds : List Val} {vs : List V} (n : Nat), RVs K F φ H ds vs → RVs K F φ H (ds.set n d) (vs.set n v)
  | [], vs, n, h => by
    rw [h.inv0]
    exact RVs.nil
  | e :: ds, vs, 0, h => by
    obtain ⟨u, us, h1, h2, h3⟩ := h.inv
    rw [h1]
    exact .cons r h3
  | e :: ds, vs, n + 1, h => by
    obtain ⟨u, us, h1, h2, h3⟩ := h.inv
    rw [h1]
    exact .cons h2 (RVs.set r n h3)
theorem RVs.reverse : ∀ {ds : List Val} {vs : List V}, RVs K F φ H ds vs → RVs K F φ H ds.reverse vs.reverse
  | [], vs, h => by
    rw [h.inv0]
    exact RVs.nil
  | d :: ds, vs, h => by
    obtain ⟨v, us, h1, h2, h3⟩ := h.inv
    rw [h1, List.reverse_cons, List.reverse_cons]
    exact (RVs.reverse h3).append (.cons h2 .nil)

/-! ### cells -/
def CellOk (K : Frg) (F φ : List Addr) (H : Hp) (a : Addr) : Cell → Prop
  | .lst l => ∃ xs, H a = some (.lst xs) ∧ RVs K F φ H l xs
  | .ins C ks vs => ∃ dx gs, H a = some (.ins C dx gs) ∧ gs.map (·.1) = ks ∧ RVs K F φ H vs (gs.map (·.2))
structure Rp (K : Frg) (F φ : List Addr) (S : Store) (H : Hp) : Prop where
  len : φ.length = S.length
  nd : φ.Nodup
  cells : ∀ (i : Nat) c, S[i]? = some c → ∃ a, φ[i]? = some a ∧ CellOk K F φ H a c
  forb : ∀ a ∈ F, a ∉ φ ∧ ∃ o, H a = some o
theorem CellOk.there {a : Addr} {c : Cell} (h : CellOk K F φ H a c) : ∃ o, H a = some o := by
  cases c with
  | lst l => obtain ⟨xs, h, _⟩ := h; exact ⟨_, h⟩
  | ins C ks vs => obtain ⟨dx, gs, h, _⟩ := h; exact ⟨_, h⟩
theorem Rp.there {S : Store} (R : Rp K F φ S H) {a : Addr} (h : a ∈ φ) : ∃ o, H a = some o := by
  obtain ⟨i, hi, e⟩ := List.getElem_of_mem h
  have hs : i < S.length := by rw [← R.len]; exact hi
  obtain ⟨b, e1, c⟩ := R.cells i S[i] (List.getElem?_eq_getElem hs)
  rw [List.getElem?_eq_getElem hi, e] at e1
  cases e1
  exact c.there
theorem Rp.fresh {S : Store} (R : Rp K F φ S H) {p : Addr} (h : H p = none) : p ∉ φ := fun hm => by
  obtain ⟨o, q⟩ := R.there hm
  rw [h] at q
  cases q
theorem Rp.freshF {S : Store} (R : Rp K F φ S H) {p : Addr} (h : H p = none) : p ∉ F := fun hm => by
  obtain ⟨_, o, q⟩ := R.forb p hm
  rw [h] at q
  cases q
theorem Rp.inj {S : Store} (R : Rp K F φ S H) {i j : Nat} {a : Addr} (h1 : φ[i]? = some a) (h2 : φ[j]? = some a) : i = j := by
  obtain ⟨q1, e1⟩ := List.getElem?_eq_some_iff.mp h1
  obtain ⟨q2, e2⟩ := List.getElem?_eq_some_iff.mp h2
  exact (List.getElem_inj R.nd).mp (e1.trans e2.symm)
theorem CellOk.upd {a b : Addr} {c : Cell} {o : HO} (h : CellOk K F φ H a c) (e : Ext φ H φ' (upd H b o)) (n : a ≠ b) : CellOk K F φ' (upd H b o) a c := by
  cases c with
  | lst l =>
    obtain ⟨xs, h1, h2⟩ := h
    exact ⟨xs, by rw [upd_ne n]; exact h1, RVs.mono e _ _ h2⟩
  | ins C ks vs =>
    obtain ⟨dx, gs, h1, h2, h3⟩ := h
    exact ⟨dx, gs, by rw [upd_ne n]; exact h1, h2, RVs.mono e _ _ h3⟩
theorem Ext.new {p : Addr} {o : HO} (h : H p = none) : Ext φ H φ (upd H p o) :=
  ⟨⟨[], by simp, by simp⟩, fun a u q _ => by rw [upd_ne (ne_of_none q h)]; exact q, fun a u q => ⟨u, by rw [upd_ne (ne_of_none q h)]; exact q⟩, fun a xs q => by rw [upd_ne (ne_of_none q h)]; exact q, fun a u w q => by rw [upd_ne (ne_of_none q h)]; exact q⟩
theorem Ext.cell {p : Addr} {o : HO} (h : H p = none) : Ext φ H (φ ++ [p]) (upd H p o) :=
  ⟨⟨[p], rfl, fun a ha => by rw [List.mem_singleton.mp ha]; exact h⟩, fun a u q _ => by rw [upd_ne (ne_of_none q h)]; exact q, fun a u q => ⟨u, by rw [upd_ne (ne_of_none q h)]; exact q⟩, fun a xs q => by rw [upd_ne (ne_of_none q h)]; exact q, fun a u w q => by rw [upd_ne (ne_of_none q h)]; exact q⟩
theorem Ext.setL {a : Addr} {o : HO} {xs : List V} (ha : a ∈ φ) (h : H a = some (.lst xs)) : Ext φ H φ (upd H a o) := by
  refine ⟨⟨[], by simp, by simp⟩, fun b u q n => ?_, fun b u q => ?_, fun b ys q => ?_, fun b u w q => ?_⟩
  · rw [upd_ne (fun z => by subst z; exact n ha)]; exact q
  · by_cases z : b = a
    · subst z; exact ⟨o, upd_same⟩
    · exact ⟨u, by rw [upd_ne z]; exact q⟩
  · rw [upd_ne (fun z => by subst z; rw [h] at q; cases q)]; exact q
  · rw [upd_ne (fun z => by subst z; rw [h] at q; cases q)]; exact q
theorem Rp.new {S : Store} (R : Rp K F φ S H) {p : Addr} {o : HO} (h : H p = none) : Rp K F φ S (L2.upd H p o) := by
  refine ⟨R.len, R.nd, fun i c q => ?_, fun a ha => ?_⟩
  · obtain ⟨a, e1, e2⟩ := R.cells i c q
    obtain ⟨u, e3⟩ := e2.there
    exact ⟨a, e1, e2.upd (Ext.new h) (ne_of_none e3 h)⟩
  · obtain ⟨n, u, q⟩ := R.forb a ha
    exact ⟨n, u, by rw [upd_ne (ne_of_none q h)]; exact q⟩
theorem Rp.cell {S : Store} (R : Rp K F φ S H) {p : Addr} {l : List Val} {xs : List V} (h : H p = none) (r : RVs K F φ H l xs) : Rp K F (φ ++ [p]) (S ++ [.lst l]) (L2.upd H p (.lst xs)) := by
  have nf := R.fresh h
  refine ⟨by simp [R.len], ?_, fun i c q => ?_, fun a ha => ?_⟩
  · rw [List.nodup_append]
    refine ⟨R.nd, by simp, fun a ha b hb => ?_⟩
    rw [List.mem_singleton.mp hb]
    exact fun z => nf (z ▸ ha)
  · by_cases hi : i < S.length
    · rw [List.getElem?_append_left hi] at q
      obtain ⟨a, e1, e2⟩ := R.cells i c q
      obtain ⟨u, e3⟩ := e2.there
      exact ⟨a, (Ext.cell (o := .lst xs) h).at e1, e2.upd (Ext.cell h) (ne_of_none e3 h)⟩
    · have hl : i < (S ++ [Cell.lst l]).length := (List.getElem?_eq_some_iff.mp q).1
      rw [List.length_append, List.length_singleton] at hl
      have e : i = S.length := by omega
      subst e
      rw [List.getElem?_append_right (Nat.le_refl _)] at q
      simp at q
      subst q
      refine ⟨p, ?_, xs, upd_same, RVs.mono (Ext.cell h) _ _ r⟩
      rw [← R.len, List.getElem?_append_right (Nat.le_refl _)]
      simp
  · obtain ⟨n, u, q⟩ := R.forb a ha
    refine ⟨fun hm => ?_, u, by rw [upd_ne (ne_of_none q h)]; exact q⟩
    rcases List.mem_append.mp hm with hm | hm
    · exact n hm
    · rw [List.mem_singleton.mp hm, h] at q
      cases q
theorem Rp.lst {S : Store} (R : Rp K F φ S H) {i : Nat} {a : Addr} {l : List Val} (ha : φ[i]? = some a) (q : S[i]? = some (.lst l)) : ∃ xs, H a = some (.lst xs) ∧ RVs K F φ H l xs := by
  obtain ⟨b, e1, e2⟩ := R.cells i _ q
  rw [ha] at e1
  cases e1
  exact e2
theorem Rp.set {S : Store} (R : Rp K F φ S H) {i : Nat} {a : Addr} {l0 l : List Val} {xs : List V} (ha : φ[i]? = some a) (q : S[i]? = some (.lst l0)) (r : RVs K F φ H l xs) :
    Ext φ H φ (L2.upd H a (.lst xs)) ∧ Rp K F φ (S.set i (.lst l)) (L2.upd H a (.lst xs)) := by
  obtain ⟨ys, h, _⟩ := R.lst ha q
  have hm : a ∈ φ := List.mem_of_getElem? ha
  have e : Ext φ H φ (L2.upd H a (.lst xs)) := Ext.setL hm h
  refine ⟨e, by rw [List.length_set]; exact R.len, R.nd, fun j c qc => ?_, fun b hb => ?_⟩
  · by_cases hj : j = i
    · subst hj
      rw [List.getElem?_set_self (List.getElem?_eq_some_iff.mp q).1] at qc
      cases qc
      exact ⟨a, ha, xs, upd_same, RVs.mono e _ _ r⟩
    · rw [List.getElem?_set_ne (Ne.symm hj)] at qc
      obtain ⟨b, e1, e2⟩ := R.cells j c qc
      exact ⟨b, e1, e2.upd e fun z => hj (R.inj (z ▸ e1) ha)⟩
  · obtain ⟨n, u, q2⟩ := R.forb b hb
    have z : b ≠ a := fun z => n (z ▸ hm)
    exact ⟨n, u, by rw [upd_ne z]; exact q2⟩
end

/-! ### slots -/
abbrev VEnv := List (Option Val)
def RE (K : Frg) (F φ : List Addr) (H : Hp) (env : VEnv) (σ : L2.St) : Prop := env.length = σ.length ∧ ∀ (i : Nat) d, env[i]? = some (some d) → ∃ v, σ[i]? = some (some v) ∧ RV K F φ H d v
section
variable {K : Frg} {F φ φ' : List Addr} {H H' : Hp} {env : VEnv} {σ : L2.St}
theorem RE.mono (e : Ext φ H φ' H') (r : RE K F φ H env σ) : RE K F φ' H' env σ := ⟨r.1, fun i d h => by
  obtain ⟨v, h1, h2⟩ := r.2 i d h
  exact ⟨v, h1, RV.mono e d v h2⟩⟩
theorem RE.set {d : Val} {v : V} (r : RE K F φ H env σ) (h : RV K F φ H d v) (i : Nat) : RE K F φ H (env.set i (some d)) (σ.set i (some v)) := by
  refine ⟨by simp [r.1], fun j e q => ?_⟩
  have hj := (List.getElem?_eq_some_iff.mp q).1
  rw [List.length_set] at hj
  by_cases z : j = i
  · subst z
    rw [List.getElem?_set_self hj] at q
    cases q
    exact ⟨v, by rw [List.getElem?_set_self (by rw [← r.1]; exact hj)], h⟩
  · rw [List.getElem?_set_ne (Ne.symm z)] at q
    rw [List.getElem?_set_ne (Ne.symm z)]
    exact r.2 j e q
end

/-! ### what implements what -/
abbrev MM (α : Type) := VEnv → Store → Option (α × Store)
abbrev ME := MM Val
abbrev MT := MM Bool
abbrev MA := MM (List Val)
/-- the wish behind an evaluation -/
def Aft (K : Frg) (F φ : List Addr) (H : Hp) (S' : Store) (d : Val) (Q : VK) : Prop := ∀ φ' H' v, Ext φ H φ' H' → Rp K F φ' S' H' → RV K F φ' H' d v → Q v H'
def AftB (K : Frg) (F φ : List Addr) (H : Hp) (S' : Store) (b : Bool) (Q : Bool → Hp → Prop) : Prop := ∀ φ' H', Ext φ H φ' H' → Rp K F φ' S' H' → Q b H'
def AftA (K : Frg) (F φ : List Addr) (H : Hp) (S' : Store) (ds : List Val) (Q : List V → Hp → Prop) : Prop := ∀ φ' H' vs, Ext φ H φ' H' → Rp K F φ' S' H' → RVs K F φ' H' ds vs → Q vs H'
def Im (K : Frg) (t : TE) (m : ME) : Prop := ∀ F φ S H σ env d S', Rp K F φ S H → RE K F φ H env σ → m env S = some (d, S') → ∀ Q : VK, Aft K F φ H S' d Q → t σ H Q
def ImT (K : Frg) (t : TT) (m : MT) : Prop := ∀ F φ S H σ env b S', Rp K F φ S H → RE K F φ H env σ → m env S = some (b, S') → ∀ Q : Bool → Hp → Prop, AftB K F φ H S' b Q → t σ H Q
def ImA (K : Frg) (t : TA) (m : MA) : Prop := ∀ F φ S H σ env ds S', Rp K F φ S H → RE K F φ H env σ → m env S = some (ds, S') → ∀ Q : List V → Hp → Prop, AftA K F φ H S' ds Q → t σ H Q
def EI (X : Cx) (e : Expr) (m : ME) : Prop := ∃ t, PE X e t ∧ Im X.K t m
def TI (X : Cx) (e : Expr) (m : MT) : Prop := ∃ t, PT X e t ∧ ImT X.K t m
/-- a test, whatever its whole is -/
def WI (X : Cx) (e : Expr) (m : MT) : Prop := ∃ t, PW X e t ∧ ImT X.K t m
def AI (X : Cx) (es : List Expr) (m : MA) : Prop := ∃ t, PA X es t ∧ ImA X.K t m

def bnd {α β : Type} (m : Option (α × Store)) (f : α → Store → Option (β × Store)) : Option (β × Store) := match m with
  | some (a, S) => f a S
  | none => none
theorem nr {α : Sort u} {a b : α} (h : a = b) : a = b := h
@[simp] theorem bnd_ok {α β : Type} (a : α) (S : Store) (f : α → Store → Option (β × Store)) : bnd (some (a, S)) f = f a S := nr rfl
@[simp] theorem bnd_none {α β : Type} (f : α → Store → Option (β × Store)) : bnd none f = none := nr rfl
theorem bnd_some {α β : Type} {m : Option (α × Store)} {f : α → Store → Option (β × Store)} {r : β × Store} (h : bnd m f = some r) : ∃ a S, m = some (a, S) ∧ f a S = some r := by
  cases m with
  | none => cases h
  | some p => exact ⟨p.1, p.2, rfl, h⟩

section
variable {K : Frg} {F φ φ' : List Addr} {H H' : Hp} {S' : Store}
theorem Aft.mono {d : Val} {Q : VK} (a : Aft K F φ H S' d Q) (e : Ext φ H φ' H') : Aft K F φ' H' S' d Q := fun φ2 H2 v e2 r q => a φ2 H2 v (e.trans e2) r q
theorem AftB.mono {d : Bool} {Q : Bool → Hp → Prop} (a : AftB K F φ H S' d Q) (e : Ext φ H φ' H') : AftB K F φ' H' S' d Q := fun φ2 H2 e2 r => a φ2 H2 (e.trans e2) r
theorem AftA.mono {d : List Val} {Q : List V → Hp → Prop} (a : AftA K F φ H S' d Q) (e : Ext φ H φ' H') : AftA K F φ' H' S' d Q := fun φ2 H2 v e2 r q => a φ2 H2 v (e.trans e2) r q
theorem Aft.now {d : Val} {v : V} {Q : VK} (a : Aft K F φ H S' d Q) (r : Rp K F φ S' H) (q : RV K F φ H d v) : Q v H := a φ H v Ext.refl r q
theorem AftB.now {d : Bool} {Q : Bool → Hp → Prop} (a : AftB K F φ H S' d Q) (r : Rp K F φ S' H) : Q d H := a φ H Ext.refl r
end

/-! ### names, constants -/
def mVar (i : Nat) : ME := fun env S => match env[i]? with | some (some d) => some (d, S) | _ => none
def mC (d : Val) : ME := fun _ S => some (d, S)
section
variable {X : Cx}
theorem ei_v (i : Nat) {x : Str} {pos : Pos} (hN : X.N[i]? = some x := by rfl) (hv : Vis X.env.scope x := by first | exact Or.inl rfl | exact Or.inr (Or.inl rfl) | exact Or.inr (Or.inr rfl)) (hd : (x == ("__debug__" : Str)) = false := by decide)
    (hcd : (x == ("__classdict__" : Str)) = false := by decide) : EI X (.Name x pos) (mVar i) := by
  refine ⟨_, pe_var hN hv hd hcd, fun F φ S H σ env d S' R E h Q a => ?_⟩
  unfold mVar at h
  split at h
  · rename_i d' q
    cases h
    obtain ⟨v, e1, e2⟩ := E.2 i _ q
    exact ⟨v, e1, a.now R e2⟩
  · cases h
theorem im_c {K : Frg} {d : Val} {v : V} (r : ∀ F φ H, RV K F φ H d v) : Im K (tC v) (mC d) := fun F φ S H σ env d' S' R E h Q a => by
  cases h
  exact a.now R (r _ _ _)
theorem ei_int {i j pos} : EI X (.Constant (.int i) j pos) (mC (.int i)) := ⟨_, pe_int, im_c fun _ _ _ => by unfold RV; rfl⟩
theorem ei_bl {b j pos} : EI X (.Constant (.bool b) j pos) (mC (.bl b)) := ⟨_, pe_bl, im_c fun _ _ _ => by unfold RV; rfl⟩
theorem ei_non {j pos} : EI X (.Constant .none j pos) (mC .non) := ⟨_, pe_non, im_c fun _ _ _ => by unfold RV; rfl⟩
theorem ei_str {x j pos} : EI X (.Constant (.str x) j pos) (mC (.str x)) := ⟨_, pe_str, im_c fun _ _ _ => by unfold RV; rfl⟩
/-- a constant of the module -/
theorem ei_glob {x : Str} {v : V} {u : Value} {d : Val} {pos : Pos} (hg : Gl X x) (hm : X.mg x = some u) (r : RelV v u) (hr : ∀ F φ H, RV X.K F φ H d v) (hd : (x == ("__debug__" : Str)) = false := by decide) : EI X (.Name x pos) (mC d) :=
  ⟨_, pe_glob hg hm r hd, im_c hr⟩
end

/-! ### operators -/
abbrev M1 := Val → Store → Option (Val × Store)
abbrev M2 := Val → Val → Store → Option (Val × Store)
abbrev MCall := List Val → Store → Option (Val × Store)
def Im2 (K : Frg) (r : R2) (f : M2) : Prop := ∀ F φ S H a b x y d S', Rp K F φ S H → RV K F φ H a x → RV K F φ H b y → f a b S = some (d, S') → ∀ Q : VK, Aft K F φ H S' d Q → r x y H Q
def Im1 (K : Frg) (r : V → Hp → VK → Prop) (f : M1) : Prop := ∀ F φ S H a x d S', Rp K F φ S H → RV K F φ H a x → f a S = some (d, S') → ∀ Q : VK, Aft K F φ H S' d Q → r x H Q
def ImC (K : Frg) (r : List V → Hp → VK → Prop) (f : MCall) : Prop := ∀ F φ S H as xs d S', Rp K F φ S H → RVs K F φ H as xs → f as S = some (d, S') → ∀ Q : VK, Aft K F φ H S' d Q → r xs H Q
def Op2 (X : Cx) (op : Value → Value → Sem Value) (f : M2) : Prop := ∃ r, OpR X op r ∧ Im2 X.K r f
def Op1 (X : Cx) (op : Value → Sem Value) (f : M1) : Prop := ∃ r, UnR X op r ∧ Im1 X.K r f
def OpC (X : Cx) (g : Value) (f : MCall) : Prop := ∃ r, CallR X g r ∧ ImC X.K r f
def mBin (f : M2) (ma mb : ME) : ME := fun env S => bnd (ma env S) fun x S1 => bnd (mb env S1) fun y S2 => f x y S2
def mUn (f : M1) (ma : ME) : ME := fun env S => bnd (ma env S) fun x S1 => f x S1
section
variable {K : Frg} {ta tb : TE} {ma mb : ME}
theorem im_bin {r : R2} {f : M2} (ha : Im K ta ma) (hb : Im K tb mb) (hr : Im2 K r f) : Im K (tOp r ta tb) (mBin f ma mb) := fun F φ S H σ env d S' R E h Q a => by
  obtain ⟨x, S1, h1, h⟩ := bnd_some h
  obtain ⟨y, S2, h2, h⟩ := bnd_some h
  refine ha F φ S H σ env x S1 R E h1 _ fun φ1 H1 v e1 R1 r1 => ?_
  refine hb F φ1 S1 H1 σ env y S2 R1 (E.mono e1) h2 _ fun φ2 H2 u e2 R2 r2 => ?_
  exact hr F φ2 S2 H2 x y v u d S' R2 (RV.mono e2 _ _ r1) r2 h Q (a.mono (e1.trans e2))
theorem im_un {r : V → Hp → VK → Prop} {f : M1} (ha : Im K ta ma) (hr : Im1 K r f) : Im K (tUn r ta) (mUn f ma) := fun F φ S H σ env d S' R E h Q a => by
  obtain ⟨x, S1, h1, h⟩ := bnd_some h
  refine ha F φ S H σ env x S1 R E h1 _ fun φ1 H1 v e1 R1 r1 => ?_
  exact hr F φ1 S1 H1 x v d S' R1 r1 h Q (a.mono e1)
end
section
variable {X : Cx} {a b : Expr} {ma mb : ME} {pos : Pos}
theorem ei_op {op : Operator} {f : M2} (ho : Op2 X (binaryOp op) f) (ha : EI X a ma) (hb : EI X b mb) : EI X (.BinOp a op b pos) (mBin f ma mb) := by
  obtain ⟨r, o, i⟩ := ho
  obtain ⟨ta, pa, ia⟩ := ha
  obtain ⟨tb, pb, ib⟩ := hb
  exact ⟨_, pe_op o pa pb, im_bin ia ib i⟩
theorem ei_un {op : UnaryOp} {f : M1} (ho : Op1 X (unaryOp op) f) (ha : EI X a ma) : EI X (.UnaryOp op a pos) (mUn f ma) := by
  obtain ⟨r, o, i⟩ := ho
  obtain ⟨ta, pa, ia⟩ := ha
  exact ⟨_, pe_un o pa, im_un ia i⟩
theorem ei_cmp {op : CmpOp} {f : M2} (ho : Op2 X (compareOp op) f) (ha : EI X a ma) (hb : EI X b mb) (hm : behindInMarks op b = false) : EI X (.Compare a [op] [b] pos) (mBin f ma mb) := by
  obtain ⟨r, o, i⟩ := ho
  obtain ⟨ta, pa, ia⟩ := ha
  obtain ⟨tb, pb, ib⟩ := hb
  exact ⟨_, pe_cmpR o pa pb hm, im_bin ia ib i⟩
/-- an expression's bool as a test -/
def mTest (m : ME) : MT := fun env S => bnd (m env S) fun d S1 => match d with | .bl b => some (b, S1) | _ => none
theorem im_test {K : Frg} {t : TE} {m : ME} (h : Im K t m) : ImT K (tTest t) (mTest m) := fun F φ S H σ env b S' R E q Q a => by
  obtain ⟨d, S1, h1, q⟩ := bnd_some q
  refine h F φ S H σ env d S1 R E h1 _ fun φ1 H1 v e1 R1 r1 => ?_
  cases d with
  | bl c =>
    cases q
    unfold RV at r1
    exact ⟨b, r1, a φ1 H1 e1 R1⟩
  | _ => cases q
theorem ti_cmp {op : CmpOp} {f : M2} (ho : Op2 X (compareOp op) f) (ha : EI X a ma) (hb : EI X b mb) (hm : behindInMarks op b = false) : TI X (.Compare a [op] [b] pos) (mTest (mBin f ma mb)) := by
  obtain ⟨r, o, i⟩ := ho
  obtain ⟨ta, pa, ia⟩ := ha
  obtain ⟨tb, pb, ib⟩ := hb
  exact ⟨_, pt_cmpR o pa pb hm, im_test (im_bin ia ib i)⟩
def mAnd (m n : MT) : MT := fun env S => bnd (m env S) fun b S1 => if b = true then n env S1 else some (false, S1)
def mOr (m n : MT) : MT := fun env S => bnd (m env S) fun b S1 => if b = true then some (true, S1) else n env S1
def mNot (m : MT) : MT := fun env S => bnd (m env S) fun b S1 => some (!b, S1)
variable {m n : MT} {rest : List Expr}
theorem wi_and1 (h : TI X a m) : WI X (.BoolOp .And [a] pos) m := by
  obtain ⟨t, p, i⟩ := h
  exact ⟨_, pw_and1 p, i⟩
theorem wi_or1 (h : TI X a m) : WI X (.BoolOp .Or [a] pos) m := by
  obtain ⟨t, p, i⟩ := h
  exact ⟨_, pw_or1 p, i⟩
theorem wi_and (h : TI X a m) (g : WI X (.BoolOp .And (b :: rest) pos) n) : WI X (.BoolOp .And (a :: b :: rest) pos) (mAnd m n) := by
  obtain ⟨t, p, i⟩ := h
  obtain ⟨u, q, j⟩ := g
  refine ⟨_, pw_and p q, fun F φ S H σ env b S' R E h Q a => ?_⟩
  obtain ⟨c, S1, h1, h⟩ := bnd_some h
  refine i F φ S H σ env c S1 R E h1 _ fun φ1 H1 e1 R1 => ?_
  cases c with
  | true => exact j F φ1 S1 H1 σ env b S' R1 (E.mono e1) h Q (a.mono e1)
  | false =>
    cases h
    exact a φ1 H1 e1 R1
theorem wi_or (h : TI X a m) (g : WI X (.BoolOp .Or (b :: rest) pos) n) : WI X (.BoolOp .Or (a :: b :: rest) pos) (mOr m n) := by
  obtain ⟨t, p, i⟩ := h
  obtain ⟨u, q, j⟩ := g
  refine ⟨_, pw_or p q, fun F φ S H σ env b S' R E h Q a => ?_⟩
  obtain ⟨c, S1, h1, h⟩ := bnd_some h
  refine i F φ S H σ env c S1 R E h1 _ fun φ1 H1 e1 R1 => ?_
  cases c with
  | false => exact j F φ1 S1 H1 σ env b S' R1 (E.mono e1) h Q (a.mono e1)
  | true =>
    cases h
    exact a φ1 H1 e1 R1
theorem ti_w (h : WI X a m) : TI X a m := by
  obtain ⟨t, p, i⟩ := h
  exact ⟨_, p.pt, i⟩
theorem ti_not (h : TI X a m) : TI X (.UnaryOp .Not a pos) (mNot m) := by
  obtain ⟨t, p, i⟩ := h
  refine ⟨_, pt_not p, fun F φ S H σ env b S' R E h Q a => ?_⟩
  obtain ⟨c, S1, h1, h⟩ := bnd_some h
  cases h
  exact i F φ S H σ env c S' R E h1 _ fun φ1 H1 e1 R1 => a φ1 H1 e1 R1
/-- an expression whose value is a bool, as a test -/
theorem ti_val (h : EI X a ma) (he : ∀ whole, isTrue a X.env whole = (do let v ← whole; standAt a.pos; holding [v] (truthy v)) := by intro _; rfl) : TI X a (mTest ma) := by
  obtain ⟨t, p, i⟩ := h
  exact ⟨_, pt_val p he, im_test i⟩
/-- and, or, not as values (bools) -/
def mAndV (m n : ME) : ME := fun env S => bnd (mTest m env S) fun b S1 => if b = true then n env S1 else some (.bl false, S1)
def mOrV (m n : ME) : ME := fun env S => bnd (mTest m env S) fun b S1 => if b = true then some (.bl true, S1) else n env S1
def mNotV (m : ME) : ME := fun env S => bnd (mTest m env S) fun b S1 => some (.bl (!b), S1)
theorem ei_one {op} (h : EI X a ma) : EI X (.BoolOp op [a] pos) ma := by
  obtain ⟨t, p, i⟩ := h
  exact ⟨_, pe_one p, i⟩
theorem ei_and (h : EI X a ma) (g : EI X (.BoolOp .And (b :: rest) pos) mb) : EI X (.BoolOp .And (a :: b :: rest) pos) (mAndV ma mb) := by
  obtain ⟨t, p, i⟩ := h
  obtain ⟨u, q, j⟩ := g
  refine ⟨_, pe_and p q, fun F φ S H σ env d S' R E h Q a => ?_⟩
  obtain ⟨c, S1, h1, h⟩ := bnd_some h
  refine im_test i F φ S H σ env c S1 R E h1 _ fun φ1 H1 e1 R1 => ?_
  cases c with
  | true => exact j F φ1 S1 H1 σ env d S' R1 (E.mono e1) h Q (a.mono e1)
  | false =>
    cases h
    exact a φ1 H1 _ e1 R1 (by unfold RV; rfl)
theorem ei_or (h : EI X a ma) (g : EI X (.BoolOp .Or (b :: rest) pos) mb) : EI X (.BoolOp .Or (a :: b :: rest) pos) (mOrV ma mb) := by
  obtain ⟨t, p, i⟩ := h
  obtain ⟨u, q, j⟩ := g
  refine ⟨_, pe_or p q, fun F φ S H σ env d S' R E h Q a => ?_⟩
  obtain ⟨c, S1, h1, h⟩ := bnd_some h
  refine im_test i F φ S H σ env c S1 R E h1 _ fun φ1 H1 e1 R1 => ?_
  cases c with
  | false => exact j F φ1 S1 H1 σ env d S' R1 (E.mono e1) h Q (a.mono e1)
  | true =>
    cases h
    exact a φ1 H1 _ e1 R1 (by unfold RV; rfl)
theorem ei_not (h : EI X a ma) : EI X (.UnaryOp .Not a pos) (mNotV ma) := by
  obtain ⟨t, p, i⟩ := h
  refine ⟨_, pe_not p, fun F φ S H σ env d S' R E h Q a => ?_⟩
  obtain ⟨c, S1, h1, h⟩ := bnd_some h
  cases h
  exact im_test i F φ S H σ env c S' R E h1 _ fun φ1 H1 e1 R1 => a φ1 H1 _ e1 R1 (by unfold RV; rfl)
def mIf (m : MT) (ma mb : ME) : ME := fun env S => bnd (m env S) fun b S1 => if b = true then ma env S1 else mb env S1
theorem ei_if {c : Expr} (h : TI X c m) (ha : EI X a ma) (hb : EI X b mb) : EI X (.IfExp c a b pos) (mIf m ma mb) := by
  obtain ⟨t, p, i⟩ := h
  obtain ⟨ta, pa, ia⟩ := ha
  obtain ⟨tb, pb, ib⟩ := hb
  refine ⟨_, pe_ifExp p pa pb, fun F φ S H σ env d S' R E h Q a => ?_⟩
  obtain ⟨c, S1, h1, h⟩ := bnd_some h
  refine i F φ S H σ env c S1 R E h1 _ fun φ1 H1 e1 R1 => ?_
  cases c with
  | true => exact ia F φ1 S1 H1 σ env d S' R1 (E.mono e1) h Q (a.mono e1)
  | false => exact ib F φ1 S1 H1 σ env d S' R1 (E.mono e1) h Q (a.mono e1)
/-! ### arguments, displays -/
def mNil : MA := fun _ S => some ([], S)
def mCons (m : ME) (ms : MA) : MA := fun env S => bnd (m env S) fun d S1 => bnd (ms env S1) fun ds S2 => some (d :: ds, S2)
variable {es : List Expr} {ms : MA} {e : Expr} {me : ME}
theorem ai_nil : AI X [] mNil := ⟨_, pa_nil, fun F φ S H σ env ds S' R E h Q a => by
  cases h
  exact a φ H [] Ext.refl R RVs.nil⟩
theorem ai_cons (h : EI X e me) (g : AI X es ms) (hs : starEach (e :: es) X.env = (false, eval e X.env) :: starEach es X.env := by rfl) : AI X (e :: es) (mCons me ms) := by
  obtain ⟨t, p, i⟩ := h
  obtain ⟨u, q, j⟩ := g
  refine ⟨_, pa_cons p q hs, fun F φ S H σ env ds S' R E h Q a => ?_⟩
  obtain ⟨d, S1, h1, h⟩ := bnd_some h
  obtain ⟨ds', S2, h2, h⟩ := bnd_some h
  cases h
  refine i F φ S H σ env d S1 R E h1 _ fun φ1 H1 v e1 R1 r1 => ?_
  refine j F φ1 S1 H1 σ env ds' S' R1 (E.mono e1) h2 _ fun φ2 H2 vs e2 R2 r2 => ?_
  exact a φ2 H2 _ (e1.trans e2) R2 (.cons (RV.mono e2 _ _ r1) r2)
def mTup (ms : MA) : ME := fun env S => bnd (ms env S) fun ds S1 => if ds.length ≤ sizeLine then some (.tup ds, S1) else none
/-- a list that stays as it is; a list that may change -/
def mFro (ms : MA) : ME := fun env S => bnd (ms env S) fun ds S1 => if ds.length ≤ sizeLine then some (.fro ds, S1) else none
def mLst (ms : MA) : ME := fun env S => bnd (ms env S) fun ds S1 => if ds.length ≤ sizeLine then some (.ref S1.length, S1 ++ [.lst ds]) else none
theorem Aft.tup {K : Frg} {F φ : List Addr} {H : Hp} {S : Store} {ds : List Val} {xs : List V} {Q : VK} (a : Aft K F φ H S (.tup ds) Q) (R : Rp K F φ S H) (r : RVs K F φ H ds xs) {p : Addr} (hp : H p = none) : Q (.ref p) (upd H p (.tup xs)) := by
  refine a φ _ _ (Ext.new hp) (R.new hp) ?_
  unfold RV
  exact ⟨p, xs, rfl, SqT.of upd_same, RVs.mono (Ext.new hp) _ _ r⟩
theorem Aft.fro {K : Frg} {F φ : List Addr} {H : Hp} {S : Store} {ds : List Val} {xs : List V} {Q : VK} (a : Aft K F φ H S (.fro ds) Q) (R : Rp K F φ S H) (r : RVs K F φ H ds xs) {p : Addr} (hp : H p = none) : Q (.ref p) (upd H p (.lst xs)) := by
  refine a φ _ _ (Ext.new hp) (R.new hp) ?_
  unfold RV
  exact ⟨p, xs, rfl, R.fresh hp, R.freshF hp, upd_same, RVs.mono (Ext.new hp) _ _ r⟩
theorem Aft.lst {K : Frg} {F φ : List Addr} {H : Hp} {S : Store} {ds : List Val} {xs : List V} {Q : VK} (a : Aft K F φ H (S ++ [.lst ds]) (.ref S.length) Q) (R : Rp K F φ S H) (r : RVs K F φ H ds xs) {p : Addr} (hp : H p = none) : Q (.ref p) (upd H p (.lst xs)) := by
  refine a (φ ++ [p]) _ _ (Ext.cell hp) (R.cell hp r) ?_
  unfold RV
  refine ⟨p, rfl, ?_⟩
  rw [← R.len, List.getElem?_append_right (Nat.le_refl _)]
  simp
theorem ei_tup {k} (h : AI X es ms) : EI X (.Tuple es k pos) (mTup ms) := by
  obtain ⟨t, p, i⟩ := h
  refine ⟨_, pe_tup p, fun F φ S H σ env d S' R E h Q a => ?_⟩
  obtain ⟨ds, S1, h1, h⟩ := bnd_some h
  split at h
  · rename_i hz
    cases h
    refine i F φ S H σ env ds S' R E h1 _ fun φ1 H1 vs e1 R1 r1 => ?_
    exact ⟨by rw [r1.length]; exact hz, fun p hp => (a.mono e1).tup R1 r1 hp⟩
  · cases h
theorem ei_fro (h : AI X es ms) : EI X (.List es pos) (mFro ms) := by
  obtain ⟨t, p, i⟩ := h
  refine ⟨_, pe_lst p, fun F φ S H σ env d S' R E h Q a => ?_⟩
  obtain ⟨ds, S1, h1, h⟩ := bnd_some h
  split at h
  · rename_i hz
    cases h
    refine i F φ S H σ env ds S' R E h1 _ fun φ1 H1 vs e1 R1 r1 => ?_
    exact ⟨by rw [r1.length]; exact hz, fun p hp => (a.mono e1).fro R1 r1 hp⟩
  · cases h
theorem ei_lst (h : AI X es ms) : EI X (.List es pos) (mLst ms) := by
  obtain ⟨t, p, i⟩ := h
  refine ⟨_, pe_lst p, fun F φ S H σ env d S' R E h Q a => ?_⟩
  obtain ⟨ds, S1, h1, h⟩ := bnd_some h
  split at h
  · rename_i hz
    cases h
    refine i F φ S H σ env ds S1 R E h1 _ fun φ1 H1 vs e1 R1 r1 => ?_
    exact ⟨by rw [r1.length]; exact hz, fun p hp => (a.mono e1).lst R1 r1 hp⟩
  · cases h
/-- a built-in's call -/
def mCall (f : MCall) (ms : MA) : ME := fun env S => bnd (ms env S) fun ds S1 => f ds S1
end
end Fx
/-! What operators and built-ins do to values. -/
namespace Fx
open PySem PySem.Spec PyProof.Rows L2

/-! ### a value as data -/
mutual
def toPy : Val → Option PyData
  | .non => some .none
  | .bl b => some (.bool b)
  | .int i => some (.int i)
  | .str x => some (.str x)
  | .tup l => (toPyL l).map .tuple
  | .fro l => (toPyL l).map .list
  | .scr l => (toPyL l).map .list
  | .ref _ => none
  | .obj _ _ _ => none
  | .raw _ => none
def toPyL : List Val → Option (List PyData)
  | [] => some []
  | d :: ds => (toPy d).bind fun p => (toPyL ds).map fun ps => p :: ps
end
section
variable {K : Frg} {F φ : List Addr} {H : Hp}
mutual
theorem dp_of : ∀ (d : Val) (v : V) (p : PyData), toPy d = some p → RV K F φ H d v → Dp K H v p
  | .non, v, p, e, r => by
    unfold toPy at e
    unfold RV at r
    cases e
    subst r
    exact .non
  | .bl b, v, p, e, r => by
    unfold toPy at e
    unfold RV at r
    cases e
    subst r
    exact .bl b
  | .int b, v, p, e, r => by
    unfold toPy at e
    unfold RV at r
    cases e
    subst r
    exact .int b
  | .str b, v, p, e, r => by
    unfold toPy at e
    unfold RV at r
    cases e
    subst r
    exact .str b
  | .tup l, v, p, e, r => by
    unfold toPy at e
    unfold RV at r
    obtain ⟨a, xs, h1, h2, h3⟩ := r
    cases q : toPyL l with
    | none => rw [q] at e; cases e
    | some ps =>
      rw [q] at e
      cases e
      subst h1
      exact .tup h2 (dp_ofL l xs ps q h3)
  | .fro l, v, p, e, r => by
    unfold toPy at e
    unfold RV at r
    obtain ⟨a, xs, h1, _, _, h2, h3⟩ := r
    cases q : toPyL l with
    | none => rw [q] at e; cases e
    | some ps =>
      rw [q] at e
      cases e
      subst h1
      exact .lst (SqL.of h2) (dp_ofL l xs ps q h3)
  | .scr l, v, p, e, r => by
    unfold toPy at e
    unfold RV at r
    obtain ⟨a, xs, h1, h2, h3⟩ := r
    cases q : toPyL l with
    | none => rw [q] at e; cases e
    | some ps =>
      rw [q] at e
      cases e
      subst h1
      exact .lst h2.sq (dp_ofL l xs ps q h3)
  | .ref _, v, p, e, r => by unfold toPy at e; cases e
  | .obj _ _ _, v, p, e, r => by unfold toPy at e; cases e
  | .raw _, v, p, e, r => by unfold toPy at e; cases e
theorem dp_ofL : ∀ (ds : List Val) (vs : List V) (ps : List PyData), toPyL ds = some ps → RVs K F φ H ds vs → DpAll K H vs ps
  | [], vs, ps, e, r => by
    unfold toPyL at e
    cases e
    rw [r.inv0]
    exact .nil
  | d :: ds, vs, ps, e, r => by
    unfold toPyL at e
    obtain ⟨v, ws, h1, h2, h3⟩ := r.inv
    cases q : toPy d with
    | none => rw [q] at e; cases e
    | some p =>
      cases q2 : toPyL ds with
      | none => rw [q, q2] at e; cases e
      | some ps' =>
        rw [q, q2] at e
        cases e
        subst h1
        exact .cons (dp_of d v p q h2) (dp_ofL ds ws ps' q2 h3)
end
end
/-- a list of the store, read as it is now -/
def topV (S : Store) : Val → Val
  | .ref i => match S[i]? with
    | some (.lst l) => .fro l
    | _ => .ref i
  | d => d
def pyOf (S : Store) (d : Val) : Option PyData := toPy (topV S d)
/-- the items of a list; of a tuple -/
def lstOf (S : Store) : Val → Option (List Val)
  | .fro l => some l
  | .scr l => some l
  | .ref i => match S[i]? with
    | some (.lst l) => some l
    | _ => none
  | _ => none
def tupOf : Val → Option (List Val)
  | .tup l => some l
  | _ => none
section
variable {K : Frg} {F φ : List Addr} {H : Hp} {S : Store}
theorem lst_of (R : Rp K F φ S H) {d : Val} {v : V} {l : List Val} (e : lstOf S d = some l) (r : RV K F φ H d v) : ∃ a xs, v = .ref a ∧ SqL K H a xs ∧ RVs K F φ H l xs := by
  unfold lstOf at e
  split at e
  · cases e
    unfold RV at r
    obtain ⟨a, xs, h1, _, _, h2, h3⟩ := r
    exact ⟨a, xs, h1, SqL.of h2, h3⟩
  · cases e
    unfold RV at r
    obtain ⟨a, xs, h1, h2, h3⟩ := r
    exact ⟨a, xs, h1, h2.sq, h3⟩
  · split at e
    · rename_i q
      cases e
      unfold RV at r
      obtain ⟨a, h1, h2⟩ := r
      obtain ⟨xs, h3, h4⟩ := R.lst h2 q
      exact ⟨a, xs, h1, SqL.of h3, h4⟩
    · cases e
  · cases e
theorem tup_of {d : Val} {v : V} {l : List Val} (e : tupOf d = some l) (r : RV K F φ H d v) : ∃ a xs, v = .ref a ∧ SqT K H a xs ∧ RVs K F φ H l xs := by
  unfold tupOf at e
  split at e
  · cases e
    unfold RV at r
    exact r
  · cases e
theorem dp_ofS (R : Rp K F φ S H) {d : Val} {v : V} {p : PyData} (e : pyOf S d = some p) (r : RV K F φ H d v) : Dp K H v p := by
  unfold pyOf topV at e
  split at e
  · split at e
    · rename_i q
      unfold RV at r
      obtain ⟨a, h1, h2⟩ := r
      obtain ⟨xs, h3, h4⟩ := R.lst h2 q
      unfold toPy at e
      cases q2 : toPyL _ with
      | none => rw [q2] at e; cases e
      | some ps =>
        rw [q2] at e
        cases e
        subst h1
        exact .lst (SqL.of h3) (dp_ofL _ _ _ q2 h4)
    · unfold toPy at e
      cases e
  · exact dp_of _ _ _ e r
end

/-! ### values that are ints, texts -/
section
variable {K : Frg} {F φ : List Addr} {H : Hp} {v : V}
theorem rv_non : RV K F φ H .non .non := by unfold RV; rfl
theorem rv_bl {b : Bool} : RV K F φ H (.bl b) (.bl b) := by unfold RV; rfl
theorem rv_int {b : Int} : RV K F φ H (.int b) (.int b) := by unfold RV; rfl
theorem rv_str {b : Str} : RV K F φ H (.str b) (.str b) := by unfold RV; rfl
theorem RV.bl {b : Bool} (h : RV K F φ H (.bl b) v) : v = .bl b := by unfold RV at h; exact h
theorem RV.int {b : Int} (h : RV K F φ H (.int b) v) : v = .int b := by unfold RV at h; exact h
theorem RV.str {b : Str} (h : RV K F φ H (.str b) v) : v = .str b := by unfold RV at h; exact h
theorem RV.non (h : RV K F φ H .non v) : v = .non := by unfold RV at h; exact h
end

/-! ### operators of two -/
def vInt2 (g : Int → Int → Option Val) : M2 := fun a b S => match a, b with
  | .int i, .int j => (g i j).map fun d => (d, S)
  | _, _ => none
theorem im2_int {K : Frg} {C : Int → Int → Prop} [∀ i j, Decidable (C i j)] {g : Int → Int → V} {h : Int → Int → Val} (hr : ∀ F φ H i j, RV K F φ H (h i j) (g i j)) : Im2 K (rI C g) (vInt2 fun i j => if C i j then some (h i j) else none) := fun F φ S H a b x y d S' R ra rb e Q q => by
  unfold vInt2 at e
  split at e
  · rename_i i j
    dsimp only at e
    split at e
    · rename_i hc
      cases e
      exact ⟨i, j, ra.int, rb.int, hc, q.now R (hr _ _ _ _ _)⟩
    · cases e
  · cases e
theorem im2_int0 {K : Frg} {g : Int → Int → V} {h : Int → Int → Val} (hr : ∀ F φ H i j, RV K F φ H (h i j) (g i j)) : Im2 K (rI0 g) (vInt2 fun i j => some (h i j)) := fun F φ S H a b x y d S' R ra rb e Q q => by
  unfold vInt2 at e
  split at e
  · rename_i i j
    cases e
    exact ⟨i, j, ra.int, rb.int, q.now R (hr _ _ _ _ _)⟩
  · cases e
theorem Im2.or {K : Frg} {r r' : R2} {f g : M2} (h : Im2 K r f) (h' : Im2 K r' g) : Im2 K (fun x y H Q => r x y H Q ∨ r' x y H Q) (fun a b S => (f a b S).or (g a b S)) := fun F φ S H a b x y d S' R ra rb e Q q => by
  dsimp only at e
  cases e1 : f a b S with
  | none =>
    rw [e1] at e
    exact .inr (h' F φ S H a b x y d S' R ra rb e Q q)
  | some p =>
    rw [e1] at e
    cases e
    exact .inl (h F φ S H a b x y d S' R ra rb e1 Q q)
theorem Op2.or {X : Cx} {op : Value → Value → Sem Value} {f g : M2} (h : Op2 X op f) (h' : Op2 X op g) : Op2 X op (fun a b S => (f a b S).or (g a b S)) := by
  obtain ⟨r, o, i⟩ := h
  obtain ⟨r', o', i'⟩ := h'
  exact ⟨_, o.or o', i.or i'⟩
theorem Op2.of {X : Cx} {op : Value → Value → Sem Value} {f g : M2} (h : Op2 X op f) (e : ∀ a b S r, g a b S = some r → f a b S = some r) : Op2 X op g := by
  obtain ⟨r, o, i⟩ := h
  exact ⟨r, o, fun F φ S H a b x y d S' R ra rb q => i F φ S H a b x y d S' R ra rb (e _ _ _ _ q)⟩
instance (i j : Int) : Decidable (CDivN i j) := inferInstanceAs (Decidable (_ ∧ _))
instance (i j : Int) : Decidable (CPow i j) := inferInstanceAs (Decidable (_ ∧ _ ∧ _))
instance (i j : Int) : Decidable (CMul i j) := inferInstanceAs (Decidable (_ ∨ _))

/-- + -/
def vAdd : M2 := fun a b S => match a, b with
  | .int i, .int j => some (.int (i + j), S)
  | .str x, .str y => if x.length + y.length ≤ sizeLine then some (.str (x ++ y), S) else none
  | .tup l, .tup m => if l.length + m.length ≤ sizeLine then some (.tup (l ++ m), S) else none
  | .fro l, .fro m => if l.length + m.length ≤ sizeLine then some (.fro (l ++ m), S) else none
  | _, _ => none
section
variable {X : Cx}
theorem op2_add : Op2 X (binaryOp .Add) vAdd := by
  refine ⟨_, (op_add.or (op_add_str.or (op_catA.or op_cat))), fun F φ S H a b x y d S' R ra rb e Q q => ?_⟩
  unfold vAdd at e
  split at e
  · rename_i i j
    cases e
    exact .inl ⟨i, j, ra.int, rb.int, q.now R rv_int⟩
  · rename_i i j
    split at e
    · rename_i hz
      cases e
      exact .inr (.inl ⟨i, j, ra.str, rb.str, hz, q.now R rv_str⟩)
    · cases e
  · rename_i l m
    split at e
    · rename_i hz
      cases e
      have ra' := ra
      have rb' := rb
      unfold RV at ra' rb'
      obtain ⟨p1, xs, h1, h2, h3⟩ := ra'
      obtain ⟨p2, ys, g1, g2, g3⟩ := rb'
      refine .inr (.inr (.inl ⟨p1, p2, xs, ys, h1, g1, h2, g2, by rw [h3.length, g3.length]; exact hz, fun ex => ?_, fun _ ey => ?_, fun _ _ p hp => ?_⟩))
      · subst ex
        have el : l = [] := by
          have := h3.length
          cases l with
          | nil => rfl
          | cons _ _ => simp at this
        subst el
        rw [List.nil_append] at q
        rw [← g1]
        exact q.now R rb
      · subst ey
        have el : m = [] := by
          have := g3.length
          cases m with
          | nil => rfl
          | cons _ _ => simp at this
        subst el
        rw [List.append_nil] at q
        rw [← h1]
        exact q.now R ra
      · exact q.tup R (h3.append g3) hp
    · cases e
  · rename_i l m
    split at e
    · rename_i hz
      cases e
      unfold RV at ra rb
      obtain ⟨p1, xs, h1, _, _, h2, h3⟩ := ra
      obtain ⟨p2, ys, g1, _, _, g2, g3⟩ := rb
      exact .inr (.inr (.inr ⟨p1, p2, xs, ys, h1, g1, h2, g2, by rw [h3.length, g3.length]; exact hz, fun p hp => q.fro R (h3.append g3) hp⟩))
    · cases e
  · cases e
def vSub : M2 := vInt2 fun i j => some (.int (i - j))
theorem op2_sub : Op2 X (binaryOp .Sub) vSub := ⟨_, op_sub, im2_int0 fun _ _ _ _ _ => rv_int⟩
def vDiv : M2 := vInt2 fun i j => if CDivN i j then some (.int (i.fdiv j)) else none
theorem op2_div : Op2 X (binaryOp .FloorDiv) vDiv := ⟨_, op_fdivN, im2_int fun _ _ _ _ _ => rv_int⟩
def vMod : M2 := vInt2 fun i j => if j ≠ 0 then some (.int (i.fmod j)) else none
theorem op2_mod : Op2 X (binaryOp .Mod) vMod := ⟨_, op_modN, im2_int fun _ _ _ _ _ => rv_int⟩
def vPow : M2 := vInt2 fun i j => if CPow i j then some (.int (i ^ j.toNat)) else none
theorem op2_pow : Op2 X (binaryOp .Pow) vPow := ⟨_, op_pow, im2_int fun _ _ _ _ _ => rv_int⟩
/-- a text, times -/
def repS (x : Str) (n : Nat) : Str := ⟨(List.replicate n x.cps.toList).flatten.toArray⟩
def rMulS : R2 := fun x y H Q => ∃ z n, x = .str z ∧ y = .int n ∧ 2 ≤ n ∧ n < 2 ^ 62 ∧ 1 ≤ z.length ∧ z.length * n.toNat ≤ sizeLine ∧ Q (.str (repS z n.toNat)) H
theorem fold_repS (c : Array Nat) : ∀ (k : Nat) (acc : Array Nat), (List.replicate k c).foldl (· ++ ·) acc = acc ++ (List.replicate k c.toList).flatten.toArray
  | 0, acc => by simp
  | k + 1, acc => by
    rw [List.replicate_succ, List.foldl_cons, fold_repS c k, List.replicate_succ, List.flatten_cons]
    apply Array.toList_inj.mp
    simp
theorem op_mulS : OpR X (binaryOp .Mult) rMulS := by
  intro pins s σ H x y v u Q I rx ry h
  obtain ⟨z, n, rfl, rfl, h2, h62, h1, hz, q⟩ := h
  obtain ⟨t, rfl⟩ := rx
  obtain ⟨t', rfl⟩ := ry
  have hsl := sizeLine_eq
  refine PySem.P.mul_str ?_ ?_ ?_ ?_
  · have e1 : ¬ n < -(2 ^ 63 : Int) := by omega
    have e2 : ¬ n ≥ 2 ^ 63 := by omega
    rw [decide_eq_false e1, decide_eq_false e2]
    rfl
  · intro _ _
    have : (z.length : Int) * n ≤ 2 ^ 63 - 1 := by
      have e : n = (n.toNat : Int) := by omega
      rw [e, ← Int.natCast_mul]
      omega
    have e2 : (z.length : Int) ≤ (2 ^ 63 - 1) / n := by
      rw [Int.le_ediv_iff_mul_le (by omega)]
      exact this
    omega
  · intro _ _
    first | exact decide_eq_false (by omega) | (simp [Builtin.tooLong]; omega)
  · rw [if_neg (by omega), if_neg (by simp; omega)]
    refine ⟨?_, .str _, H, I.tok _, ⟨_, rfl⟩, ?_⟩
    · show ((List.replicate n.toNat z.cps).foldl (· ++ ·) #[]).size ≤ sizeLine
      rw [fold_repS]
      have : (List.replicate n.toNat z.cps.toList).flatten.length = n.toNat * z.cps.size := by
        rw [List.length_flatten]
        simp
      rw [Array.size_append]
      simp only [List.size_toArray]
      rw [this]
      have e3 : z.length = z.cps.size := rfl
      rw [e3, Nat.mul_comm] at hz
      simpa using hz
    · have e : (List.replicate n.toNat z.cps).foldl (· ++ ·) #[] = (List.replicate n.toNat z.cps.toList).flatten.toArray := by
        rw [fold_repS]
        simp
      rw [e]
      exact q
def vMul : M2 := fun a b S => match a, b with
  | .int i, .int j => if CMul i j then some (.int (i * j), S) else none
  | .str z, .int n => if 2 ≤ n ∧ n < 2 ^ 62 ∧ 1 ≤ z.length ∧ z.length * n.toNat ≤ sizeLine then some (.str (repS z n.toNat), S) else none
  | .fro l, .int n => if -(2 ^ 63) ≤ n ∧ n < 2 ^ 63 ∧ l.length * n.toNat ≤ sizeLine then some (.fro (List.replicate n.toNat l).flatten, S) else none
  | .tup l, .int n => if l ≠ [] ∧ 2 ≤ n ∧ n ≤ 1000 ∧ l.length ≤ 1000 then some (.tup (List.replicate n.toNat l).flatten, S) else none
  | _, _ => none
theorem RVs.rep {K : Frg} {F φ : List Addr} {H : Hp} {l : List Val} {xs : List V} (r : RVs K F φ H l xs) : ∀ n : Nat, RVs K F φ H (List.replicate n l).flatten (List.replicate n xs).flatten
  | 0 => by simpa using RVs.nil
  | n + 1 => by
    rw [List.replicate_succ, List.replicate_succ, List.flatten_cons, List.flatten_cons]
    exact r.append (RVs.rep r n)
theorem op2_mul : Op2 X (binaryOp .Mult) vMul := by
  refine ⟨_, (op_mul.or (op_mulS.or (op_rep.or op_repT))), fun F φ S H a b x y d S' R ra rb e Q q => ?_⟩
  unfold vMul at e
  split at e
  · rename_i i j
    split at e
    · rename_i hz
      cases e
      exact .inl ⟨i, j, ra.int, rb.int, hz, q.now R rv_int⟩
    · cases e
  · rename_i z n
    split at e
    · rename_i hz
      cases e
      exact .inr (.inl ⟨z, n, ra.str, rb.int, hz.1, hz.2.1, hz.2.2.1, hz.2.2.2, q.now R rv_str⟩)
    · cases e
  · rename_i l n
    split at e
    · rename_i hz
      cases e
      unfold RV at ra
      obtain ⟨p1, xs, h1, _, _, h2, h3⟩ := ra
      exact .inr (.inr (.inl ⟨p1, n, xs, h1, rb.int, h2, hz.1, hz.2.1, by rw [h3.length]; exact hz.2.2, fun p hp => q.fro R (h3.rep _) hp⟩))
    · cases e
  · rename_i l n
    split at e
    · rename_i hz
      cases e
      unfold RV at ra
      obtain ⟨p1, xs, h1, h2, h3⟩ := ra
      refine .inr (.inr (.inr ⟨p1, n, xs, h1, rb.int, h2, fun z => ?_, hz.2.1, hz.2.2.1, by rw [h3.length]; exact hz.2.2.2, fun p hp => q.tup R (h3.rep _) hp⟩))
      subst z
      have := h3.length
      cases l with
      | nil => exact hz.1 rfl
      | cons _ _ => simp at this
    · cases e
  · cases e
/-! ### comparisons -/
def vCmp (g : Int → Int → Bool) (h : List Nat → List Nat → Bool) : M2 := fun a b S => match a, b with
  | .int i, .int j => some (.bl (g i j), S)
  | .str x, .str y => some (.bl (h x.cps.toList y.cps.toList), S)
  | _, _ => none
theorem op2_cmp {op : CmpOp} {g : Int → Int → Bool} {h : List Nat → List Nat → Bool} (o1 : OpR X (compareOp op) (rI0 fun i j => .bl (g i j))) (o2 : OpR X (compareOp op) (fun x y H Q => ∃ i j, x = .str i ∧ y = .str j ∧ Q (.bl (h i.cps.toList j.cps.toList)) H)) :
    Op2 X (compareOp op) (vCmp g h) := by
  refine ⟨_, o1.or o2, fun F φ S H a b x y d S' R ra rb e Q q => ?_⟩
  unfold vCmp at e
  split at e
  · rename_i i j
    cases e
    exact .inl ⟨i, j, ra.int, rb.int, q.now R rv_bl⟩
  · rename_i i j
    cases e
    exact .inr ⟨i, j, ra.str, rb.str, q.now R rv_bl⟩
  · cases e
def vLt : M2 := vCmp (fun i j => decide (i < j)) fun x y => decide (x < y)
def vLe : M2 := vCmp (fun i j => decide (i ≤ j)) fun x y => !decide (y < x)
def vGt : M2 := vCmp (fun i j => decide (j < i)) fun x y => decide (y < x)
def vGe : M2 := vCmp (fun i j => decide (j ≤ i)) fun x y => !decide (x < y)
theorem op2_lt : Op2 X (compareOp .Lt) vLt := op2_cmp op_lt op_lt_str
theorem op2_le : Op2 X (compareOp .LtE) vLe := op2_cmp op_le op_le_str
theorem op2_gt : Op2 X (compareOp .Gt) vGt := op2_cmp op_gt op_gt_str
theorem op2_ge : Op2 X (compareOp .GtE) vGe := op2_cmp op_ge op_ge_str
/-- scalars as they are, other data by what they hold -/
def scalD : Val → Bool
  | .non => true
  | .bl _ => true
  | .int _ => true
  | .str _ => true
  | _ => false
def vEqN (neg : Bool) : M2 := fun a b S => match a, b with
  | .str x, .str y => some (.bl (if neg then !decide (x = y) else decide (x = y)), S)
  | .int x, .int y => some (.bl (if neg then !decide (x = y) else decide (x = y)), S)
  | a, b => (pyOf S a).bind fun p => (pyOf S b).bind fun q => if (SeqAt.shaped p && SeqAt.shaped q) = true then some (.bl (if neg then !PyData.eqv p q else PyData.eqv p q), S) else none
theorem op_eqN (hu : X.A.units + 64 < cLine) : ∀ neg : Bool, OpR X (compareOp (if neg then .NotEq else .Eq)) (fun x y H Q => (scal x y = true ∧ Q (.bl (if neg then !decide (x = y) else decide (x = y))) H) ∨
    ∃ d e, Dp X.K H x d ∧ Dp X.K H y e ∧ SeqAt.shaped d = true ∧ SeqAt.shaped e = true ∧ Q (.bl (if neg then !PyData.eqv d e else PyData.eqv d e)) H)
  | true => op_ne.or (op_neD hu)
  | false => op_eq.or (op_eqD hu)
theorem op2_eqN (hu : X.A.units + 64 < cLine) (neg : Bool) : Op2 X (compareOp (if neg then .NotEq else .Eq)) (vEqN neg) := by
  refine ⟨_, op_eqN hu neg, fun F φ S H a b x y d S' R ra rb e Q q => ?_⟩
  unfold vEqN at e
  split at e
  · rename_i u v
    cases e
    rw [ra.str, rb.str]
    refine .inl ⟨rfl, ?_⟩
    have e1 : decide (V.str u = V.str v) = decide (u = v) := by
      by_cases h : u = v
      · subst h; simp
      · rw [decide_eq_false h, decide_eq_false (fun z => h (V.str.inj z))]
    rw [e1]
    exact q.now R rv_bl
  · rename_i u v
    cases e
    rw [ra.int, rb.int]
    refine .inl ⟨rfl, ?_⟩
    have e1 : decide (V.int u = V.int v) = decide (u = v) := by
      by_cases h : u = v
      · subst h; simp
      · rw [decide_eq_false h, decide_eq_false (fun z => h (V.int.inj z))]
    rw [e1]
    exact q.now R rv_bl
  · cases e1 : pyOf S a with
    | none => rw [e1] at e; cases e
    | some p1 =>
      cases e2 : pyOf S b with
      | none => rw [e1, e2] at e; cases e
      | some p2 =>
        rw [e1, e2] at e
        simp only [Option.bind_some] at e
        split at e
        · rename_i hz
          cases e
          rw [Bool.and_eq_true] at hz
          exact .inr ⟨p1, p2, dp_ofS R e1 ra, dp_ofS R e2 rb, hz.1, hz.2, q.now R rv_bl⟩
        · cases e
abbrev vEq : M2 := vEqN false
abbrev vNe : M2 := vEqN true
theorem op2_eq (hu : X.A.units + 64 < cLine) : Op2 X (compareOp .Eq) vEq := op2_eqN hu false
theorem op2_ne (hu : X.A.units + 64 < cLine) : Op2 X (compareOp .NotEq) vNe := op2_eqN hu true
/-- in -/
def flatD : Val → Bool
  | .non => true
  | .bl _ => true
  | .int _ => true
  | .str _ => true
  | _ => false
def flatTo : Val → V
  | .bl b => .bl b
  | .int i => .int i
  | .str x => .str x
  | _ => .non
theorem flat_rv {K : Frg} {F φ : List Addr} {H : Hp} {d : Val} {v : V} (h : flatD d = true) (r : RV K F φ H d v) : v = flatTo d ∧ flatV v = true := by
  cases d with
  | non => exact ⟨r.non, by rw [r.non]; rfl⟩
  | bl b => exact ⟨r.bl, by rw [r.bl]; rfl⟩
  | int b => exact ⟨r.int, by rw [r.int]; rfl⟩
  | str b => exact ⟨r.str, by rw [r.str]; rfl⟩
  | _ => cases h
theorem flat_rvs {K : Frg} {F φ : List Addr} {H : Hp} : ∀ {ds : List Val} {vs : List V}, ds.all flatD = true → RVs K F φ H ds vs → vs = ds.map flatTo ∧ vs.all flatV = true
  | [], vs, _, r => by rw [r.inv0]; exact ⟨rfl, rfl⟩
  | d :: ds, vs, h, r => by
    obtain ⟨v, ws, h1, h2, h3⟩ := r.inv
    rw [List.all_cons, Bool.and_eq_true] at h
    obtain ⟨e1, e2⟩ := flat_rv h.1 h2
    obtain ⟨e3, e4⟩ := flat_rvs h.2 h3
    subst h1
    exact ⟨by rw [List.map_cons, ← e1, ← e3], by rw [List.all_cons, e2, e4]; rfl⟩
def inD (a : Val) (l : List Val) : Bool := inV (flatTo a) (l.map flatTo)
def vIn (neg : Bool) : M2 := fun a b S => match a, b with
  | .str x, .str z => match x.cps.toList with
    | [c] => some (.bl (if neg then !decide (c ∈ z.cps.toList) else decide (c ∈ z.cps.toList)), S)
    | _ => none
  | a, .tup l => if (flatD a && l.all flatD) = true then some (.bl (if neg then !inD a l else inD a l), S) else none
  | a, b => (lstOf S b).bind fun l => if (flatD a && l.all flatD) = true then some (.bl (if neg then !inD a l else inD a l), S) else none
theorem op_inN : ∀ neg : Bool, OpR X (compareOp (if neg then .NotIn else .In)) (fun x y H Q => (∃ (c : Nat) (z : Str), x = .str ⟨#[c]⟩ ∧ y = .str z ∧ Q (.bl (if neg then !decide (c ∈ z.cps.toList) else decide (c ∈ z.cps.toList))) H) ∨ rIn X.K neg x y H Q)
  | true => op_notIn_sign.or op_notIn_seq
  | false => op_in_sign.or op_in_seq
theorem op2_inN (neg : Bool) : Op2 X (compareOp (if neg then .NotIn else .In)) (vIn neg) := by
  refine ⟨_, op_inN neg, fun F φ S H a b x y d S' R ra rb e Q q => ?_⟩
  have core : ∀ l, ((∃ p xs, y = .ref p ∧ SqL X.K H p xs ∧ RVs X.K F φ H l xs) ∨ ∃ p xs, y = .ref p ∧ SqT X.K H p xs ∧ RVs X.K F φ H l xs) →
      (if (flatD a && l.all flatD) = true then some (Val.bl (if neg then !inD a l else inD a l), S) else none) = some (d, S') → rIn X.K neg x y H Q := fun l hl e => by
    split at e
    · rename_i hz
      rw [Bool.and_eq_true] at hz
      obtain ⟨e1, e2⟩ := flat_rv hz.1 ra
      injection e with e
      injection e with ed es
      subst es
      rcases hl with ⟨p, xs, h1, h2, h3⟩ | ⟨p, xs, h1, h2, h3⟩
      · obtain ⟨e3, e4⟩ := flat_rvs hz.2 h3
        refine ⟨p, xs, h1, .inl h2, e2, e4, ?_⟩
        rw [← ed] at q
        rw [e1, e3]
        exact q.now R rv_bl
      · obtain ⟨e3, e4⟩ := flat_rvs hz.2 h3
        refine ⟨p, xs, h1, .inr h2, e2, e4, ?_⟩
        rw [← ed] at q
        rw [e1, e3]
        exact q.now R rv_bl
    · cases e
  unfold vIn at e
  split at e
  · rename_i w z
    split at e
    · rename_i c hc
      cases e
      refine .inl ⟨c, z, ?_, rb.str, q.now R rv_bl⟩
      rw [ra.str]
      have : w = ⟨#[c]⟩ := Str.ext' (Array.toList_inj.mp (by rw [hc]))
      rw [this]
    · cases e
  · refine .inr (core _ (.inr ?_) e)
    unfold RV at rb
    exact rb
  · cases e1 : lstOf S b with
    | none => rw [e1] at e; cases e
    | some l =>
      rw [e1] at e
      exact .inr (core l (.inl (lst_of R e1 rb)) e)
theorem op2_in : Op2 X (compareOp .In) (vIn false) := op2_inN (X := X) false
theorem op2_notin : Op2 X (compareOp .NotIn) (vIn true) := op2_inN (X := X) true
/-- is None -/
def isNon : Val → Bool
  | .non => true
  | .raw w => decide (w = .non)
  | _ => false
theorem isNon_rv {K : Frg} {F φ : List Addr} {H : Hp} {d : Val} {v : V} (r : RV K F φ H d v) : isNon d = decide (v = .non) := by
  cases d with
  | non => rw [r.non]; rfl
  | bl b => rw [r.bl]; rfl
  | int b => rw [r.int]; rfl
  | str b => rw [r.str]; rfl
  | tup l => unfold RV at r; obtain ⟨a, xs, h, _⟩ := r; rw [h]; rfl
  | fro l => unfold RV at r; obtain ⟨a, xs, h, _⟩ := r; rw [h]; rfl
  | scr l => unfold RV at r; obtain ⟨a, xs, h, _⟩ := r; rw [h]; rfl
  | ref i => unfold RV at r; obtain ⟨a, h, _⟩ := r; rw [h]; rfl
  | obj C ks vs => unfold RV at r; obtain ⟨a, dx, gs, h, _⟩ := r; rw [h]; rfl
  | raw w => unfold RV at r; rw [r]; rfl
def vIs (neg : Bool) : M2 := fun a b S => match a, b with
  | .bl i, .bl j => some (.bl (if neg then !decide (i = j) else decide (i = j)), S)
  | a, .non => some (.bl (if neg then !isNon a else isNon a), S)
  | _, _ => none
theorem op_isN' : ∀ neg : Bool, OpR X (compareOp (if neg then .IsNot else .Is)) (fun x y H Q => (∃ a b : Bool, x = .bl a ∧ y = .bl b ∧ Q (.bl (if neg then !decide (a = b) else decide (a = b))) H) ∨ (y = .non ∧ Q (.bl (if neg then !decide (x = .non) else decide (x = .non))) H))
  | true => op_notBl.or op_notN
  | false => op_isBl.or op_isN
theorem op2_isN (neg : Bool) : Op2 X (compareOp (if neg then .IsNot else .Is)) (vIs neg) := by
  refine ⟨_, op_isN' neg, fun F φ S H a b x y d S' R ra rb e Q q => ?_⟩
  unfold vIs at e
  split at e
  · rename_i i j
    cases e
    exact .inl ⟨i, j, ra.bl, rb.bl, q.now R rv_bl⟩
  · cases e
    refine .inr ⟨rb.non, ?_⟩
    rw [← isNon_rv ra]
    exact q.now R rv_bl
  · cases e
theorem op2_is : Op2 X (compareOp .Is) (vIs false) := op2_isN (X := X) false
theorem op2_isnot : Op2 X (compareOp .IsNot) (vIs true) := op2_isN (X := X) true
/-! ### one -/
def vNeg : M1 := fun a S => match a with
  | .int i => some (.int (-i), S)
  | _ => none
theorem op1_neg : Op1 X (unaryOp .USub) vNeg := ⟨_, un_neg, fun F φ S H a x d S' R ra e Q q => by
  unfold vNeg at e
  split at e
  · rename_i i
    cases e
    exact ⟨i, ra.int, q.now R rv_int⟩
  · cases e⟩
end
end Fx
/-! Subscripts, slices, built-in calls, methods. -/
namespace Fx
open PySem PySem.Spec PyProof.Rows L2

/-- a new list: one that stays (false), one that may change (true) -/
def mk (c : Bool) (l : List Val) (S : Store) : Val × Store := if c = true then (.ref S.length, S ++ [.lst l]) else (.fro l, S)
@[simp] theorem mk_t (l : List Val) (S : Store) : mk true l S = (.ref S.length, S ++ [.lst l]) := rfl
@[simp] theorem mk_f (l : List Val) (S : Store) : mk false l S = (.fro l, S) := rfl
section
variable {K : Frg} {F φ : List Addr} {H : Hp} {S : Store}
theorem Aft.mk {c : Bool} {ds : List Val} {xs : List V} {Q : VK} (a : Aft K F φ H (mk c ds S).2 (mk c ds S).1 Q) (R : Rp K F φ S H) (r : RVs K F φ H ds xs) {p : Addr} (hp : H p = none) : Q (.ref p) (upd H p (.lst xs)) := by
  cases c with
  | true => exact Aft.lst a R r hp
  | false => exact Aft.fro a R r hp
theorem RVs.atI {l : List Val} {xs : List V} {i : Int} {d : Val} (r : RVs K F φ H l xs) (h : L2.atI l i = some d) : ∃ v, L2.atI xs i = some v ∧ RV K F φ H d v := by
  unfold L2.atI at h ⊢
  rw [r.length]
  cases q : ixN l.length i with
  | none => rw [q] at h; cases h
  | some j =>
    rw [q] at h
    exact r.get h
end

/-! ### a[b] -/
def vIx : M2 := fun a b S => match b with
  | .int i => match a with
    | .str z => if z.length ≤ sizeLine then (L2.atI z.cps.toList i).map fun c => (.str ⟨#[c]⟩, S) else none
    | .tup l => (L2.atI l i).map fun d => (d, S)
    | a => (lstOf S a).bind fun l => (L2.atI l i).map fun d => (d, S)
  | _ => none
section
variable {X : Cx} {a b : Expr} {ma mb : ME} {pos : Pos}
theorem im2_ix {K : Frg} : Im2 K (rIx K) vIx := fun F φ S H a b x y d S' R ra rb e Q q => by
  unfold vIx at e
  split at e
  · rename_i i
    split at e
    · rename_i z
      split at e
      · rename_i hz
        cases e1 : L2.atI z.cps.toList i with
        | none => rw [e1] at e; cases e
        | some c =>
          rw [e1] at e
          cases e
          exact .inr (.inr ⟨z, i, c, ra.str, rb.int, hz, e1, q.now R rv_str⟩)
      · cases e
    · rename_i l
      cases e1 : L2.atI l i with
      | none => rw [e1] at e; cases e
      | some c =>
        rw [e1] at e
        cases e
        unfold RV at ra
        obtain ⟨p, xs, h1, h2, h3⟩ := ra
        obtain ⟨v, h4, h5⟩ := h3.atI e1
        exact .inr (.inl ⟨p, xs, i, v, h1, rb.int, h2, h4, q.now R h5⟩)
    · cases e0 : lstOf S a with
      | none => rw [e0] at e; cases e
      | some l =>
        rw [e0] at e
        simp only [Option.bind_some] at e
        cases e1 : L2.atI l i with
        | none => rw [e1] at e; cases e
        | some c =>
          rw [e1] at e
          cases e
          obtain ⟨p, xs, h1, h2, h3⟩ := lst_of R e0 ra
          obtain ⟨v, h4, h5⟩ := h3.atI e1
          exact .inl ⟨p, xs, i, v, h1, rb.int, h2, h4, q.now R h5⟩
  · cases e
theorem ei_ix (ha : EI X a ma) (hb : EI X b mb) (hs : PlainIx b := by exact fun _ _ => rfl) : EI X (.Subscript a b pos) (mBin vIx ma mb) := by
  obtain ⟨ta, pa, ia⟩ := ha
  obtain ⟨tb, pb, ib⟩ := hb
  exact ⟨_, pe_ix ix_seq pa pb hs, im_bin ia ib im2_ix⟩
end

/-! ### slices -/
abbrev MO := MM (Option Int)
def ImO (K : Frg) (t : TO) (m : MO) : Prop := ∀ F φ S H σ env o S', Rp K F φ S H → RE K F φ H env σ → m env S = some (o, S') → ∀ Q : Option Int → Hp → Prop, (∀ φ' H', Ext φ H φ' H' → Rp K F φ' S' H' → Q o H') → t σ H Q
def OI (X : Cx) (e : Option Expr) (m : MO) : Prop := ∃ t, PO X e t ∧ ImO X.K t m
def mNo : MO := fun _ S => some (none, S)
def mPart (m : ME) : MO := fun env S => bnd (m env S) fun d S1 => match d with
  | .int i => some (some i, S1)
  | _ => none
abbrev MSl := Val → Option Int → Option Int → Store → Option (Val × Store)
def cutD (l : List Val) (lo hi : Option Int) : List Val := (l.drop (HT.sIx l.length 0 lo)).take (HT.sIx l.length l.length hi - HT.sIx l.length 0 lo)
def vSl (c : Bool) : MSl := fun a lo hi S => match a with
  | .str z => if z.length ≤ sizeLine then some (.str (cutS z lo hi), S) else none
  | .tup l => some (.tup (cutD l lo hi), S)
  | a => (lstOf S a).map fun l => mk c (cutD l lo hi) S
def mSl (f : MSl) (m : ME) (ml mh : MO) : ME := fun env S => bnd (m env S) fun d S1 => bnd (ml env S1) fun lo S2 => bnd (mh env S2) fun hi S3 => f d lo hi S3
def mRev (c : Bool) (m : ME) : ME := fun env S => bnd (m env S) fun d S1 => (lstOf S1 d).map fun l => mk c l.reverse S1
theorem cutD_cutV {l : List Val} {xs : List V} {K : Frg} {F φ : List Addr} {H : Hp} (r : RVs K F φ H l xs) (lo hi : Option Int) : RVs K F φ H (cutD l lo hi) (cutV xs lo hi) := by
  unfold cutD cutV
  rw [r.length]
  exact (r.drop _).take _
section
variable {X : Cx} {e : Expr} {lo hi : Option Expr} {m : ME} {ml mh : MO} {p2 pos : Pos}
theorem oi_none : OI X none mNo := ⟨_, po_none, fun F φ S H σ env o S' R E h Q a => by
  cases h
  exact a φ H Ext.refl R⟩
theorem oi_some (h : EI X e m) : OI X (some e) (mPart m) := by
  obtain ⟨t, p, i⟩ := h
  refine ⟨_, po_some p, fun F φ S H σ env o S' R E h Q a => ?_⟩
  obtain ⟨d, S1, h1, h⟩ := bnd_some h
  refine i F φ S H σ env d S1 R E h1 _ fun φ1 H1 v e1 R1 r1 => ?_
  cases d with
  | int j =>
    cases h
    exact ⟨j, r1.int, a φ1 H1 e1 R1⟩
  | _ => cases h
theorem ei_sl (c : Bool) (h : EI X e m) (hl : OI X lo ml) (hh : OI X hi mh) : EI X (.Subscript e (.Slice lo hi none p2) pos) (mSl (vSl c) m ml mh) := by
  obtain ⟨t, p, i⟩ := h
  obtain ⟨tl, pl, il⟩ := hl
  obtain ⟨th, ph, ih⟩ := hh
  refine ⟨_, pe_slice (sl_list.or (sl_tupA.or sl_str)) p pl ph, fun F φ S H σ env d S' R E h Q a => ?_⟩
  obtain ⟨d0, S1, h1, h⟩ := bnd_some h
  obtain ⟨o1, S2, h2, h⟩ := bnd_some h
  obtain ⟨o2, S3, h3, h⟩ := bnd_some h
  refine i F φ S H σ env d0 S1 R E h1 _ fun φ1 H1 v e1 R1 r1 => ?_
  refine il F φ1 S1 H1 σ env o1 S2 R1 (E.mono e1) h2 _ fun φ2 H2 e2 R2 => ?_
  refine ih F φ2 S2 H2 σ env o2 S3 R2 (E.mono (e1.trans e2)) h3 _ fun φ3 H3 e3 R3 => ?_
  have r3 := RV.mono (e2.trans e3) _ _ r1
  have a3 := a.mono (e1.trans (e2.trans e3))
  clear h1 h2 h3
  unfold vSl at h
  split at h
  · rename_i z _ _
    split at h
    · rename_i hz
      cases h
      exact .inr (.inr ⟨z, r3.str, hz, a3.now R3 rv_str⟩)
    · cases h
  · rename_i l _ _
    cases h
    have r4 := r3
    unfold RV at r4
    obtain ⟨q, xs, g1, g2, g3⟩ := r4
    refine .inr (.inl ⟨q, xs, g1, g2, fun hw => ?_, fun _ p hp => a3.tup R3 (cutD_cutV g3 _ _) hp⟩)
    have el : cutD l o1 o2 = l := by
      unfold cutD
      rw [← g3.length, hw.1, hw.2, List.drop_zero, Nat.sub_zero, g3.length, List.take_length]
    rw [el] at a3
    rw [← g1]
    exact a3.now R3 r3
  · cases e0 : lstOf S3 d0 with
    | none => rw [e0] at h; cases h
    | some l =>
      rw [e0] at h
      have h' : mk c (cutD l o1 o2) S3 = (d, S') := Option.some.inj h
      obtain ⟨q, xs, g1, g2, g3⟩ := lst_of R3 e0 r3
      refine .inl ⟨q, xs, g1, g2, fun p hp => Aft.mk (c := c) (ds := cutD l o1 o2) (S := S3) ?_ R3 (cutD_cutV g3 _ _) hp⟩
      rw [h']
      exact a3
theorem ei_rev (c : Bool) {k : Nat} {p1 p3 p4 : Pos} (h : EI X e m) : EI X (.Subscript e (.Slice none none (some (.UnaryOp .USub (.Constant (.int 1) k p1) p3)) p4) pos) (mRev c m) := by
  obtain ⟨t, p, i⟩ := h
  refine ⟨_, pe_revL p, fun F φ S H σ env d S' R E h Q a => ?_⟩
  obtain ⟨d0, S1, h1, h⟩ := bnd_some h
  refine i F φ S H σ env d0 S1 R E h1 _ fun φ1 H1 v e1 R1 r1 => ?_
  cases e0 : lstOf S1 d0 with
  | none => rw [e0] at h; cases h
  | some l =>
    rw [e0] at h
    have h' : mk c l.reverse S1 = (d, S') := Option.some.inj h
    obtain ⟨q, xs, g1, g2, g3⟩ := lst_of R1 e0 r1
    refine ⟨q, xs, g1, g2, fun p hp => Aft.mk (c := c) (ds := l.reverse) (S := S1) ?_ R1 g3.reverse hp⟩
    rw [h']
    exact a.mono e1
end

/-! ### lists of one kind -/
def blsOf : List Val → Option (List Bool)
  | [] => some []
  | .bl b :: ds => (blsOf ds).map fun r => b :: r
  | _ :: _ => none
def intsOf : List Val → Option (List Int)
  | [] => some []
  | .int b :: ds => (intsOf ds).map fun r => b :: r
  | _ :: _ => none
def strsOf : List Val → Option (List Str)
  | [] => some []
  | .str b :: ds => (strsOf ds).map fun r => b :: r
  | _ :: _ => none
section
variable {K : Frg} {F φ : List Addr} {H : Hp}
theorem bls_of : ∀ {ds : List Val} {vs : List V} {bs : List Bool}, blsOf ds = some bs → RVs K F φ H ds vs → vs = bs.map V.bl
  | [], vs, bs, e, r => by
    unfold blsOf at e
    cases e
    exact r.inv0
  | d :: ds, vs, bs, e, r => by
    obtain ⟨v, ws, h1, h2, h3⟩ := r.inv
    cases d with
    | bl b =>
      unfold blsOf at e
      cases q : blsOf ds with
      | none => rw [q] at e; cases e
      | some r' =>
        rw [q] at e
        cases e
        rw [h1, h2.bl, bls_of q h3]
        rfl
    | _ => unfold blsOf at e; cases e
theorem ints_of : ∀ {ds : List Val} {vs : List V} {bs : List Int}, intsOf ds = some bs → RVs K F φ H ds vs → vs = bs.map V.int
  | [], vs, bs, e, r => by
    unfold intsOf at e
    cases e
    exact r.inv0
  | d :: ds, vs, bs, e, r => by
    obtain ⟨v, ws, h1, h2, h3⟩ := r.inv
    cases d with
    | int b =>
      unfold intsOf at e
      cases q : intsOf ds with
      | none => rw [q] at e; cases e
      | some r' =>
        rw [q] at e
        cases e
        rw [h1, h2.int, ints_of q h3]
        rfl
    | _ => unfold intsOf at e; cases e
theorem strs_of : ∀ {ds : List Val} {vs : List V} {bs : List Str}, strsOf ds = some bs → RVs K F φ H ds vs → vs = bs.map V.str
  | [], vs, bs, e, r => by
    unfold strsOf at e
    cases e
    exact r.inv0
  | d :: ds, vs, bs, e, r => by
    obtain ⟨v, ws, h1, h2, h3⟩ := r.inv
    cases d with
    | str b =>
      unfold strsOf at e
      cases q : strsOf ds with
      | none => rw [q] at e; cases e
      | some r' =>
        rw [q] at e
        cases e
        rw [h1, h2.str, strs_of q h3]
        rfl
    | _ => unfold strsOf at e; cases e
end
@[simp] theorem blsOf_map (bs : List Bool) : blsOf (bs.map Val.bl) = some bs := by
  induction bs with
  | nil => rfl
  | cons b bs ih => rw [List.map_cons]; unfold blsOf; rw [ih]; rfl
@[simp] theorem intsOf_map (bs : List Int) : intsOf (bs.map Val.int) = some bs := by
  induction bs with
  | nil => rfl
  | cons b bs ih => rw [List.map_cons]; unfold intsOf; rw [ih]; rfl
@[simp] theorem strsOf_map (bs : List Str) : strsOf (bs.map Val.str) = some bs := by
  induction bs with
  | nil => rfl
  | cons b bs ih => rw [List.map_cons]; unfold strsOf; rw [ih]; rfl

/-! ### built-in calls -/
section
variable {X : Cx} {x : Str} {p pos : Pos} {e : Expr} {es : List Expr} {ms : MA} {id T : String} {f : MCall}
theorem im_cb {K : Frg} {r : List V → Hp → VK → Prop} {t : TA} (ht : ImA K t ms) (hf : ImC K r f) : Im K (tCB r t) (mCall f ms) := fun F φ S H σ env d S' R E h Q a => by
  obtain ⟨ds, S1, h1, h⟩ := bnd_some h
  refine ht F φ S H σ env ds S1 R E h1 _ fun φ1 H1 vs e1 R1 r1 => ?_
  exact hf F φ1 S1 H1 ds vs d S' R1 r1 h Q (a.mono e1)
theorem ei_callB (hc : OpC X (.builtin id) f) (hg : Gl X x) (hm : X.mg x = none) (hv : bootBuiltins x = some (.builtin id)) (ha : AI X (e :: es) ms) (hn : x ≠ "__name__" := by decide) (hdb : (x == ("__debug__" : Str)) = false := by decide)
    (he : starEach (e :: es) X.env = (false, eval e X.env) :: starEach es X.env := by rfl) (hpl : (backTo pos (starEach es X.env)).any (·.1) = false := by rfl) : EI X (.Call (.Name x p) (e :: es) [] pos) (mCall f ms) := by
  obtain ⟨r, o, i⟩ := hc
  obtain ⟨t, pa, ia⟩ := ha
  exact ⟨_, pe_callB o hg hm hv pa hn hdb he hpl, im_cb ia i⟩
theorem ei_callT (hc : OpC X (.type T) f) (hg : Gl X x) (hm : X.mg x = none) (hv : bootBuiltins x = some (.type T)) (ha : AI X (e :: es) ms) (hn : x ≠ "__name__" := by decide) (hdb : (x == ("__debug__" : Str)) = false := by decide)
    (he : starEach (e :: es) X.env = (false, eval e X.env) :: starEach es X.env := by rfl) (hpl : (backTo pos (starEach es X.env)).any (·.1) = false := by rfl) : EI X (.Call (.Name x p) (e :: es) [] pos) (mCall f ms) := by
  obtain ⟨r, o, i⟩ := hc
  obtain ⟨t, pa, ia⟩ := ha
  exact ⟨_, pe_callTy o hg hm hv pa hn hdb he hpl, im_cb ia i⟩
def vLen : MCall := fun as S => match as with
  | [.str z] => if z.length ≤ sizeLine then some (.int z.length, S) else none
  | [.tup l] => some (.int l.length, S)
  | [a] => (lstOf S a).map fun l => (.int l.length, S)
  | _ => none
theorem opc_len : OpC X (.builtin "len") vLen := by
  refine ⟨_, call_len_seq.or call_len_str, fun F φ S H as xs d S' R r e Q q => ?_⟩
  unfold vLen at e
  split at e
  · rename_i z
    obtain ⟨v, ws, h1, h2, h3⟩ := r.inv
    split at e
    · rename_i hz
      cases e
      exact .inr ⟨z, by rw [h1, h3.inv0, h2.str], hz, q.now R rv_int⟩
    · cases e
  · rename_i l
    obtain ⟨v, ws, h1, h2, h3⟩ := r.inv
    cases e
    unfold RV at h2
    obtain ⟨a, ys, g1, g2, g3⟩ := h2
    refine .inl ⟨a, ys, by rw [h1, h3.inv0, g1], .inr g2, ?_⟩
    rw [g3.length]
    exact q.now R rv_int
  · rename_i a _ _
    obtain ⟨v, ws, h1, h2, h3⟩ := r.inv
    cases e0 : lstOf S a with
    | none => rw [e0] at e; cases e
    | some l =>
      rw [e0] at e
      cases e
      obtain ⟨b, ys, g1, g2, g3⟩ := lst_of R e0 h2
      refine .inl ⟨b, ys, by rw [h1, h3.inv0, g1], .inl g2, ?_⟩
      rw [g3.length]
      exact q.now R rv_int
  · cases e
def vAbs : MCall := fun as S => match as with
  | [.int i] => some (.int (if i < 0 then -i else i), S)
  | _ => none
theorem opc_abs : OpC X (.builtin "abs") vAbs := ⟨_, call_abs, fun F φ S H as xs d S' R r e Q q => by
  unfold vAbs at e
  split at e
  · rename_i i
    obtain ⟨v, ws, h1, h2, h3⟩ := r.inv
    cases e
    exact ⟨i, by rw [h1, h3.inv0, h2.int], q.now R rv_int⟩
  · cases e⟩
def vInt : MCall := fun as S => match as with
  | [.int i] => some (.int i, S)
  | [.bl k] => some (.int (if k then 1 else 0), S)
  | [.str a] => match PySem.intText? a with
    | some n => if a.length ≤ 640 then some (.int n, S) else none
    | none => none
  | _ => none
theorem opc_int : OpC X (.type "int") vInt := ⟨_, call_int1.or call_int_str, fun F φ S H as xs d S' R r e Q q => by
  unfold vInt at e
  split at e
  · rename_i i
    obtain ⟨v, ws, h1, h2, h3⟩ := r.inv
    cases e
    exact .inl (.inl ⟨i, by rw [h1, h3.inv0, h2.int], q.now R rv_int⟩)
  · rename_i i
    obtain ⟨v, ws, h1, h2, h3⟩ := r.inv
    cases e
    exact .inl (.inr ⟨i, by rw [h1, h3.inv0, h2.bl], q.now R rv_int⟩)
  · rename_i i
    obtain ⟨v, ws, h1, h2, h3⟩ := r.inv
    split at e
    · rename_i n hn
      split at e
      · rename_i hz
        cases e
        exact .inr ⟨i, n, by rw [h1, h3.inv0, h2.str], hn, hz, q.now R rv_int⟩
      · cases e
    · cases e
  · cases e⟩
def vTuple : MCall := fun as S => match as with
  | [.tup l] => some (.tup l, S)
  | [a] => (lstOf S a).map fun l => (.tup l, S)
  | _ => none
theorem opc_tuple : OpC X (.type "tuple") vTuple := ⟨_, call_tuple_of, fun F φ S H as xs d S' R r e Q q => by
  unfold vTuple at e
  split at e
  · rename_i l
    obtain ⟨v, ws, h1, h2, h3⟩ := r.inv
    cases e
    have h2' := h2
    unfold RV at h2
    obtain ⟨a, ys, g1, g2, g3⟩ := h2
    refine ⟨a, ys, by rw [h1, h3.inv0, g1], .inr ⟨g2, ?_⟩⟩
    rw [← g1]
    exact q.now R h2'
  · rename_i a _
    obtain ⟨v, ws, h1, h2, h3⟩ := r.inv
    cases e0 : lstOf S a with
    | none => rw [e0] at e; cases e
    | some l =>
      rw [e0] at e
      cases e
      obtain ⟨b, ys, g1, g2, g3⟩ := lst_of R e0 h2
      exact ⟨b, ys, by rw [h1, h3.inv0, g1], .inl ⟨g2, fun p hp => q.tup R g3 hp⟩⟩
  · cases e⟩
def vList (c : Bool) : MCall := fun as S => match as with
  | [.tup l] => some (mk c l S)
  | [a] => (lstOf S a).map fun l => mk c l S
  | _ => none
theorem opc_list (c : Bool) : OpC X (.type "list") (vList c) := ⟨_, call_list_of, fun F φ S H as xs d S' R r e Q q => by
  unfold vList at e
  split at e
  · rename_i l
    obtain ⟨v, ws, h1, h2, h3⟩ := r.inv
    unfold RV at h2
    obtain ⟨a, ys, g1, g2, g3⟩ := h2
    refine ⟨a, ys, by rw [h1, h3.inv0, g1], .inr g2, fun p hp => Aft.mk (c := c) (S := S) ?_ R g3 hp⟩
    rw [Option.some.inj e]
    exact q
  · rename_i a _
    obtain ⟨v, ws, h1, h2, h3⟩ := r.inv
    cases e0 : lstOf S a with
    | none => rw [e0] at e; cases e
    | some l =>
      rw [e0] at e
      obtain ⟨b, ys, g1, g2, g3⟩ := lst_of R e0 h2
      refine ⟨b, ys, by rw [h1, h3.inv0, g1], .inl g2, fun p hp => Aft.mk (c := c) (S := S) ?_ R g3 hp⟩
      rw [show mk c l S = (d, S') from Option.some.inj e]
      exact q
  · cases e⟩
def vAll : MCall := fun as S => match as with
  | [a] => (lstOf S a).bind fun l => (blsOf l).map fun bs => (.bl (bs.all (fun b => b)), S)
  | _ => none
def vAny : MCall := fun as S => match as with
  | [a] => (lstOf S a).bind fun l => (blsOf l).map fun bs => (.bl (bs.any (fun b => b)), S)
  | _ => none
def vSum : MCall := fun as S => match as with
  | [a] => (lstOf S a).bind fun l => (intsOf l).map fun bs => (.int bs.sum, S)
  | _ => none
theorem opc_all (hc : X.calm = true) : OpC X (.builtin "all") vAll := ⟨_, cr_all hc, fun F φ S H as xs d S' R r e Q q => by
  unfold vAll at e
  split at e
  · rename_i a
    obtain ⟨v, ws, h1, h2, h3⟩ := r.inv
    cases e0 : lstOf S a with
    | none => rw [e0] at e; cases e
    | some l =>
      rw [e0] at e
      simp only [Option.bind_some] at e
      cases e1 : blsOf l with
      | none => rw [e1] at e; cases e
      | some bs =>
        rw [e1] at e
        cases e
        obtain ⟨b, ys, g1, g2, g3⟩ := lst_of R e0 h2
        exact ⟨b, bs, by rw [h1, h3.inv0, g1], by rw [← bls_of e1 g3]; exact g2, q.now R rv_bl⟩
  · cases e⟩
theorem opc_any (hc : X.calm = true) : OpC X (.builtin "any") vAny := ⟨_, cr_any hc, fun F φ S H as xs d S' R r e Q q => by
  unfold vAny at e
  split at e
  · rename_i a
    obtain ⟨v, ws, h1, h2, h3⟩ := r.inv
    cases e0 : lstOf S a with
    | none => rw [e0] at e; cases e
    | some l =>
      rw [e0] at e
      simp only [Option.bind_some] at e
      cases e1 : blsOf l with
      | none => rw [e1] at e; cases e
      | some bs =>
        rw [e1] at e
        cases e
        obtain ⟨b, ys, g1, g2, g3⟩ := lst_of R e0 h2
        exact ⟨b, bs, by rw [h1, h3.inv0, g1], by rw [← bls_of e1 g3]; exact g2, q.now R rv_bl⟩
  · cases e⟩
theorem opc_sum (hc : X.calm = true) : OpC X (.builtin "sum") vSum := ⟨_, cr_sum hc, fun F φ S H as xs d S' R r e Q q => by
  unfold vSum at e
  split at e
  · rename_i a
    obtain ⟨v, ws, h1, h2, h3⟩ := r.inv
    cases e0 : lstOf S a with
    | none => rw [e0] at e; cases e
    | some l =>
      rw [e0] at e
      simp only [Option.bind_some] at e
      cases e1 : intsOf l with
      | none => rw [e1] at e; cases e
      | some bs =>
        rw [e1] at e
        cases e
        obtain ⟨b, ys, g1, g2, g3⟩ := lst_of R e0 h2
        exact ⟨b, bs, by rw [h1, h3.inv0, g1], by rw [← ints_of e1 g3]; exact g2, q.now R rv_int⟩
  · cases e⟩
def vMax2 : MCall := fun as S => match as with
  | [.int i, .int j] => some (.int (if j > i then j else i), S)
  | _ => none
def vMin2 : MCall := fun as S => match as with
  | [.int i, .int j] => some (.int (if j < i then j else i), S)
  | _ => none
theorem opc_max2 (hc : X.calm = true) : OpC X (.builtin "max") vMax2 := ⟨_, call_max2 hc, fun F φ S H as xs d S' R r e Q q => by
  unfold vMax2 at e
  split at e
  · rename_i i j
    obtain ⟨v, ws, h1, h2, h3⟩ := r.inv
    obtain ⟨v', ws', h1', h2', h3'⟩ := h3.inv
    cases e
    exact ⟨i, j, by rw [h1, h1', h3'.inv0, h2.int, h2'.int], q.now R rv_int⟩
  · cases e⟩
theorem opc_min2 (hc : X.calm = true) : OpC X (.builtin "min") vMin2 := ⟨_, call_min2 hc, fun F φ S H as xs d S' R r e Q q => by
  unfold vMin2 at e
  split at e
  · rename_i i j
    obtain ⟨v, ws, h1, h2, h3⟩ := r.inv
    obtain ⟨v', ws', h1', h2', h3'⟩ := h3.inv
    cases e
    exact ⟨i, j, by rw [h1, h1', h3'.inv0, h2.int, h2'.int], q.now R rv_int⟩
  · cases e⟩
/-! ### repr -/
def rRepr (K : Frg) : List V → Hp → VK → Prop := fun xs H Q => ∃ x d, xs = [x] ∧ Dp K H x d ∧ d.showable = true ∧ d.hasDict = false ∧ d.depth ≤ 60 ∧ d.shown.length ≤ sizeLine ∧ Q (.str d.shown) H
theorem cr_repr (hg : X.A.guards = some []) (hu : X.A.units + 64 < cLine) : CallR X (.builtin "repr") (rRepr X.K) := by
  intro pins s σ H xs us Q I r h
  obtain ⟨x, d, rfl, hd, h1, h2, h3, h4, q⟩ := h
  obtain ⟨u, rfl, ru⟩ := vals1 r
  obtain ⟨as, rd⟩ := Dp.reads I d x u hd ru
  have fin : ∀ (h' : Heap) (t : Tok) (k : Nat), (∀ b o, s.heap.get? b = some o → h'.get? b = some o) → EP X pins σ Q (.str d.shown t) { s with heap := h', toks := k } := fun h' t k hk => ⟨.str d.shown, H, I.kept hk, ⟨t, rfl⟩, q⟩
  cases hd with
  | non =>
    cases ru
    simp only [PyData.shown] at fin
    exact PySem.P.repr_of_none (fin s.heap _ _ fun _ _ e => e)
  | bl b =>
    cases ru
    simp only [PyData.shown] at fin
    exact PySem.P.repr_of_bool (fin s.heap _ _ fun _ _ e => e)
  | int i =>
    obtain ⟨t, rfl⟩ := ru
    simp only [PyData.shown] at fin
    exact PySem.P.repr_of_int (by simpa [PyData.showable] using h1) (fin s.heap _ _ fun _ _ e => e)
  | str z =>
    obtain ⟨t, rfl⟩ := ru
    simp only [PyData.shown] at fin h4
    exact PySem.P.repr_of_str (fin s.heap _ _ fun _ _ e => e) h4
  | lst hs ha =>
    cases ru
    exact PySem.repr_of_reads' rd h1 (fun z => by rw [h2] at z; cases z) hg (by omega) (fun _ _ e => e) (fun h' u tk hk => fin h' u tk hk) h4
  | tup hs ha =>
    cases ru
    exact PySem.repr_of_reads' rd h1 (fun z => by rw [h2] at z; cases z) hg (by omega) (fun _ _ e => e) (fun h' u tk hk => fin h' u tk hk) h4
def reprOk (p : PyData) : Bool := p.showable && !p.hasDict && decide (p.depth ≤ 60) && decide (p.shown.length ≤ sizeLine)
def vRepr : MCall := fun as S => match as with
  | [a] => (pyOf S a).bind fun p => if reprOk p = true then some (.str p.shown, S) else none
  | _ => none
theorem opc_repr (hg : X.A.guards = some []) (hu : X.A.units + 64 < cLine) : OpC X (.builtin "repr") vRepr := ⟨_, cr_repr hg hu, fun F φ S H as xs d S' R r e Q q => by
  unfold vRepr at e
  split at e
  · rename_i a
    obtain ⟨v, ws, h1, h2, h3⟩ := r.inv
    cases e0 : pyOf S a with
    | none => rw [e0] at e; cases e
    | some p =>
      rw [e0] at e
      simp only [Option.bind_some] at e
      split at e
      · rename_i hz
        cases e
        unfold reprOk at hz
        simp only [Bool.and_eq_true, Bool.not_eq_true', decide_eq_true_eq] at hz
        obtain ⟨⟨⟨z1, z2⟩, z3⟩, z4⟩ := hz
        exact ⟨v, p, by rw [h1, h3.inv0], dp_ofS R e0 h2, z1, z2, z3, z4, q.now R rv_str⟩
      · cases e
  · cases e⟩
end

/-! ### methods -/
abbrev MMt := Val → List Val → Store → Option (Val × Store)
def ImM (K : Frg) (r : V → List V → Hp → VK → Prop) (f : MMt) : Prop := ∀ F φ S H a as x xs d S', Rp K F φ S H → RV K F φ H a x → RVs K F φ H as xs → f a as S = some (d, S') → ∀ Q : VK, Aft K F φ H S' d Q → r x xs H Q
def tyD (T : String) (S : Store) : Val → Bool
  | .str _ => T == "str"
  | a => (lstOf S a).isSome && T == "list"
def OpM (X : Cx) (id : String) (f : MMt) : Prop := ∃ r, MtR X id r ∧ ImM X.K r f
def mMeth (T : String) (f : MMt) (m : ME) (ms : MA) : ME := fun env S => bnd (m env S) fun a S1 => if tyD T S1 a = true then bnd (ms env S1) fun as S2 => f a as S2 else none
section
variable {X : Cx} {o e : Expr} {es : List Expr} {m : ME} {ms : MA} {name : Str} {apos cpos : Pos} {T id : String} {f : MMt}
theorem ty_of {K : Frg} {F φ : List Addr} {S : Store} {H : Hp} {a : Val} {x : V} (R : Rp K F φ S H) (r : RV K F φ H a x) (h : tyD T S a = true) : tyV K T x H := by
  unfold tyD at h
  split at h
  · rw [r.str]
    exact beq_iff_eq.mp h
  · rw [Bool.and_eq_true] at h
    cases q : lstOf S a with
    | none => rw [q] at h; exact absurd h.1 (by simp)
    | some l =>
      obtain ⟨p, xs, h1, h2, _⟩ := lst_of R q r
      subst h1
      exact .inl ⟨beq_iff_eq.mp h.2, xs, h2⟩
theorem ei_bm0 (pa : PlainAttrs T) (slot : Slot T name id) (hty : typeOf (.builtin id) = pure (.type "method_descriptor")) (hm : OpM X id f) (ho : EI X o m)
    (hbase : attributeBase o name X.env (eval o X.env) = eval o X.env := by rfl) (hline : (apos.endLine == cpos.line) = true := by rfl) : EI X (.Call (.Attribute o name apos) [] [] cpos) (mMeth T f m mNil) := by
  obtain ⟨r, mo, i⟩ := hm
  obtain ⟨t, p, j⟩ := ho
  refine ⟨_, pe_bm0 pa slot hty mo p hbase hline, fun F φ S H σ env d S' R E h Q a => ?_⟩
  obtain ⟨d0, S1, h1, h⟩ := bnd_some h
  split at h
  · rename_i ht
    refine j F φ S H σ env d0 S1 R E h1 _ fun φ1 H1 v e1 R1 r1 => ?_
    exact ⟨ty_of R1 r1 ht, i F φ1 S1 H1 d0 [] v [] d S' R1 r1 .nil h Q (a.mono e1)⟩
  · cases h
theorem ei_bm (pa : PlainAttrs T) (slot : Slot T name id) (hty : typeOf (.builtin id) = pure (.type "method_descriptor")) (hm : OpM X id f) (ho : EI X o m) (ha : AI X (e :: es) ms)
    (hbase : attributeBase o name X.env (eval o X.env) = eval o X.env := by rfl)
    (hfew : ((backTo cpos (starEach (e :: es) X.env)).all (fun x => !x.1) && (backToKw cpos (keywordEach [] X.env)).all (fun x => x.1.isSome)
      && decide ((e :: es).length + ([] : List Keyword).length + (if ([] : List Keyword).isEmpty then 0 else 1) < 30)) = true := by rfl)
    (hline : (apos.endLine == cpos.line) = true := by rfl) (hs : starEach (e :: es) X.env = (false, eval e X.env) :: starEach es X.env := by rfl) (hplain : (backTo cpos (starEach es X.env)).any (·.1) = false := by rfl) :
    EI X (.Call (.Attribute o name apos) (e :: es) [] cpos) (mMeth T f m ms) := by
  obtain ⟨r, mo, i⟩ := hm
  obtain ⟨t, p, j⟩ := ho
  obtain ⟨ta, pa', ia⟩ := ha
  refine ⟨_, pe_bm pa slot hty mo p pa' hbase hfew hline hs hplain, fun F φ S H σ env d S' R E h Q a => ?_⟩
  obtain ⟨d0, S1, h1, h⟩ := bnd_some h
  split at h
  · rename_i ht
    obtain ⟨as, S2, h2, h⟩ := bnd_some h
    refine j F φ S H σ env d0 S1 R E h1 _ fun φ1 H1 v e1 R1 r1 => ⟨ty_of R1 r1 ht, ?_⟩
    refine ia F φ1 S1 H1 σ env as S2 R1 (E.mono e1) h2 _ fun φ2 H2 vs e2 R2 r2 => ?_
    exact i F φ2 S2 H2 d0 as v vs d S' R2 (RV.mono e2 _ _ r1) r2 h Q (a.mono (e1.trans e2))
  · cases h
def vAppend : MMt := fun a as S => match a, as with
  | .ref i, [d] => match S[i]? with
    | some (.lst l) => if l.length < sizeLine then some (.non, S.set i (.lst (l ++ [d]))) else none
    | _ => none
  | _, _ => none
theorem opm_append : OpM X "list.append" vAppend := ⟨_, mt_append, fun F φ S H a as x xs d S' R ra rs e Q q => by
  unfold vAppend at e
  split at e
  · rename_i i y
    split at e
    · rename_i l hl
      split at e
      · rename_i hz
        cases e
        obtain ⟨v, ws, h1, h2, h3⟩ := rs.inv
        unfold RV at ra
        obtain ⟨p, g1, g2⟩ := ra
        obtain ⟨ys, k1, k2⟩ := R.lst g2 hl
        obtain ⟨e', R'⟩ := R.set g2 hl (k2.append (.cons h2 .nil))
        exact ⟨p, ys, v, g1, by rw [h1, h3.inv0], k1, by rw [k2.length]; exact hz, q φ _ _ e' R' rv_non⟩
      · cases e
    · cases e
  · cases e⟩
def vPop : MMt := fun a as S => match a, as with
  | .ref i, [] => match S[i]? with
    | some (.lst l) => (l[l.length - 1]?).map fun d => (d, S.set i (.lst l.dropLast))
    | _ => none
  | _, _ => none
theorem RVs.dropLast {K : Frg} {F φ : List Addr} {H : Hp} {l : List Val} {xs : List V} (r : RVs K F φ H l xs) : RVs K F φ H l.dropLast xs.dropLast := by
  rw [List.dropLast_eq_take, List.dropLast_eq_take, r.length]
  exact r.take _
theorem opm_pop : OpM X "list.pop" vPop := ⟨_, mt_pop, fun F φ S H a as x xs d S' R ra rs e Q q => by
  unfold vPop at e
  split at e
  · rename_i i
    split at e
    · rename_i l hl
      cases e0 : l[l.length - 1]? with
      | none => rw [e0] at e; cases e
      | some y =>
        rw [e0] at e
        cases e
        unfold RV at ra
        obtain ⟨p, g1, g2⟩ := ra
        obtain ⟨ys, k1, k2⟩ := R.lst g2 hl
        obtain ⟨v, k3, k4⟩ := k2.get e0
        obtain ⟨e', R'⟩ := R.set g2 hl k2.dropLast
        refine ⟨p, ys, v, g1, rs.inv0, k1, ?_, q φ _ _ e' R' (RV.mono e' _ _ k4)⟩
        rw [k2.length]
        exact k3
    · cases e
  · cases e⟩
def vJoin : MMt := fun a as S => match a, as with
  | .str z, [.tup l] => (strsOf l).bind fun ys => if (ys.map (·.length)).sum + ys.length * z.length ≤ 16777216 then some (.str (Txt.join z ys), S) else none
  | .str z, [b] => (lstOf S b).bind fun l => (strsOf l).bind fun ys => if (ys.map (·.length)).sum + ys.length * z.length ≤ 16777216 then some (.str (Txt.join z ys), S) else none
  | _, _ => none
theorem opm_join : OpM X "str.join" vJoin := ⟨_, mt_join, fun F φ S H a as x xs d S' R ra rs e Q q => by
  unfold vJoin at e
  split at e
  · rename_i z l
    cases e0 : strsOf l with
    | none => rw [e0] at e; cases e
    | some ys =>
      rw [e0] at e
      simp only [Option.bind_some] at e
      split at e
      · rename_i hz
        cases e
        obtain ⟨v, ws, h1, h2, h3⟩ := rs.inv
        unfold RV at h2
        obtain ⟨p, us, g1, g2, g3⟩ := h2
        exact ⟨z, p, ys, ra.str, by rw [h1, h3.inv0, g1], .inr (by rw [← strs_of e0 g3]; exact g2), hz, q.now R rv_str⟩
      · cases e
  · rename_i z b _
    cases e1 : lstOf S b with
    | none => rw [e1] at e; cases e
    | some l =>
      rw [e1] at e
      simp only [Option.bind_some] at e
      cases e0 : strsOf l with
      | none => rw [e0] at e; cases e
      | some ys =>
        rw [e0] at e
        simp only [Option.bind_some] at e
        split at e
        · rename_i hz
          cases e
          obtain ⟨v, ws, h1, h2, h3⟩ := rs.inv
          obtain ⟨p, us, g1, g2, g3⟩ := lst_of R e1 h2
          exact ⟨z, p, ys, ra.str, by rw [h1, h3.inv0, g1], .inl (by rw [← strs_of e0 g3]; exact g2), hz, q.now R rv_str⟩
        · cases e
  · cases e⟩
end
end Fx
/-! Statements, loops, comprehensions. -/
namespace Fx
open PySem PySem.Spec PyProof.Rows L2

/-! ### the readings in one form for each meaning -/
def canE (K : Frg) (m : ME) : TE := fun σ H Q => ∃ F φ S env d S', Rp K F φ S H ∧ RE K F φ H env σ ∧ m env S = some (d, S') ∧ Aft K F φ H S' d Q
def canT (K : Frg) (m : MT) : TT := fun σ H Q => ∃ F φ S env d S', Rp K F φ S H ∧ RE K F φ H env σ ∧ m env S = some (d, S') ∧ AftB K F φ H S' d Q
theorem im_can {K : Frg} {m : ME} : Im K (canE K m) m := fun F φ S H σ env d S' R E h Q a => ⟨F, φ, S, env, d, S', R, E, h, a⟩
theorem imT_can {K : Frg} {m : MT} : ImT K (canT K m) m := fun F φ S H σ env d S' R E h Q a => ⟨F, φ, S, env, d, S', R, E, h, a⟩
theorem EI.can {X : Cx} {e : Expr} {m : ME} (h : EI X e m) : PE X e (canE X.K m) := by
  obtain ⟨t, p, i⟩ := h
  refine ⟨fun pins s σ H Q I q => ?_⟩
  obtain ⟨F, φ, S, env, d, S', R, E, h, a⟩ := q
  exact p.run pins s σ H Q I (i F φ S H σ env d S' R E h Q a)
def TsI (X : Cx) (es : List Expr) (m : MT) : Prop := ∃ t, PTs X es t ∧ ImT X.K t m
theorem TsI.can {X : Cx} {e : List Expr} {m : MT} (h : TsI X e m) : PTs X e (canT X.K m) := by
  obtain ⟨t, p, i⟩ := h
  refine ⟨fun pins s σ H Q I q => ?_⟩
  obtain ⟨F, φ, S, env, d, S', R, E, h, a⟩ := q
  exact p.run pins s σ H Q I (i F φ S H σ env d S' R E h Q a)
def mYes : MT := fun _ S => some (true, S)
theorem tsi_nil {X : Cx} : TsI X [] mYes := ⟨_, pts_nil, fun F φ S H σ env d S' R E h Q a => by
  cases h
  exact a.now R⟩
theorem tsi_one {X : Cx} {c : Expr} {m : MT} (h : TI X c m) : TsI X [c] m := by
  obtain ⟨t, p, i⟩ := h
  exact ⟨_, pts_one p, i⟩

/-! ### addresses that nothing may hold -/
section
variable {K : Frg} {F F' φ : List Addr} {H : Hp}
mutual
theorem RV.more (hf : ∀ a ∈ F', a ∈ F ∨ H a = none) : ∀ (d : Val) (v : V), RV K F φ H d v → RV K F' φ H d v
  | .non, v, h => by unfold RV at h ⊢; exact h
  | .bl b, v, h => by unfold RV at h ⊢; exact h
  | .int i, v, h => by unfold RV at h ⊢; exact h
  | .str x, v, h => by unfold RV at h ⊢; exact h
  | .raw w, v, h => by unfold RV at h ⊢; exact h
  | .tup l, v, h => by
    unfold RV at h ⊢
    obtain ⟨a, xs, h1, h2, h3⟩ := h
    exact ⟨a, xs, h1, h2, RVs.more hf l xs h3⟩
  | .fro l, v, h => by
    unfold RV at h ⊢
    obtain ⟨a, xs, h1, h2, h4, h5, h3⟩ := h
    refine ⟨a, xs, h1, h2, fun hm => ?_, h5, RVs.more hf l xs h3⟩
    rcases hf a hm with z | z
    · exact h4 z
    · rw [h5] at z; cases z
  | .scr l, v, h => by
    unfold RV at h ⊢
    obtain ⟨a, xs, h1, h2, h3⟩ := h
    exact ⟨a, xs, h1, h2, RVs.more hf l xs h3⟩
  | .ref i, v, h => by
    unfold RV at h ⊢
    exact h
  | .obj C ks vs, v, h => by
    unfold RV at h ⊢
    obtain ⟨a, dx, gs, h1, h2, h4, h5, h6, h3⟩ := h
    refine ⟨a, dx, gs, h1, h2, fun hm => ?_, h5, h6, RVs.more hf vs _ h3⟩
    rcases hf a hm with z | z
    · exact h4 z
    · rw [h5] at z; cases z
theorem RVs.more (hf : ∀ a ∈ F', a ∈ F ∨ H a = none) : ∀ (ds : List Val) (vs : List V), RVs K F φ H ds vs → RVs K F' φ H ds vs
  | [], vs, h => by unfold RVs at h ⊢; exact h
  | d :: ds, vs, h => by
    unfold RVs at h ⊢
    obtain ⟨v, ws, h1, h2, h3⟩ := h
    exact ⟨v, ws, h1, RV.more hf d v h2, RVs.more hf ds ws h3⟩
end
/- an address that nothing holds becomes a cell, or is written -/
mutual
theorem RV.adopt {D : Addr} {ψ : List Addr} (hD : ∀ a ∈ ψ, a ∈ F') (hf : ∀ a ∈ F, a ∈ F') : ∀ (d : Val) (v : V), RV K F' φ H d v → RV K F (φ ++ ψ) H d v
  | .non, v, h => by unfold RV at h ⊢; exact h
  | .bl b, v, h => by unfold RV at h ⊢; exact h
  | .int i, v, h => by unfold RV at h ⊢; exact h
  | .str x, v, h => by unfold RV at h ⊢; exact h
  | .raw w, v, h => by unfold RV at h ⊢; exact h
  | .tup l, v, h => by
    unfold RV at h ⊢
    obtain ⟨a, xs, h1, h2, h3⟩ := h
    exact ⟨a, xs, h1, h2, RVs.adopt (D := D) hD hf l xs h3⟩
  | .fro l, v, h => by
    unfold RV at h ⊢
    obtain ⟨a, xs, h1, h2, h4, h5, h3⟩ := h
    refine ⟨a, xs, h1, fun hm => ?_, fun hm => h4 (hf a hm), h5, RVs.adopt (D := D) hD hf l xs h3⟩
    rcases List.mem_append.mp hm with z | z
    · exact h2 z
    · exact h4 (hD a z)
  | .scr l, v, h => by
    unfold RV at h ⊢
    obtain ⟨a, xs, h1, h2, h3⟩ := h
    exact ⟨a, xs, h1, h2, RVs.adopt (D := D) hD hf l xs h3⟩
  | .ref i, v, h => by
    unfold RV at h ⊢
    obtain ⟨a, h1, h2⟩ := h
    exact ⟨a, h1, by rw [List.getElem?_append_left (List.getElem?_eq_some_iff.mp h2).1]; exact h2⟩
  | .obj C ks vs, v, h => by
    unfold RV at h ⊢
    obtain ⟨a, dx, gs, h1, h2, h4, h5, h6, h3⟩ := h
    refine ⟨a, dx, gs, h1, fun hm => ?_, fun hm => h4 (hf a hm), h5, h6, RVs.adopt (D := D) hD hf vs _ h3⟩
    rcases List.mem_append.mp hm with z | z
    · exact h2 z
    · exact h4 (hD a z)
theorem RVs.adopt {D : Addr} {ψ : List Addr} (hD : ∀ a ∈ ψ, a ∈ F') (hf : ∀ a ∈ F, a ∈ F') : ∀ (ds : List Val) (vs : List V), RVs K F' φ H ds vs → RVs K F (φ ++ ψ) H ds vs
  | [], vs, h => by unfold RVs at h ⊢; exact h
  | d :: ds, vs, h => by
    unfold RVs at h ⊢
    obtain ⟨v, ws, h1, h2, h3⟩ := h
    exact ⟨v, ws, h1, RV.adopt (D := D) hD hf d v h2, RVs.adopt (D := D) hD hf ds ws h3⟩
end
mutual
theorem RV.upd {D : Addr} {xs : List V} {o : HO} (hD : D ∈ F) (hl : H D = some (.lst xs)) : ∀ (d : Val) (v : V), RV K F φ H d v → RV K F φ (L2.upd H D o) d v
  | .non, v, h => by unfold RV at h ⊢; exact h
  | .bl b, v, h => by unfold RV at h ⊢; exact h
  | .int i, v, h => by unfold RV at h ⊢; exact h
  | .str x, v, h => by unfold RV at h ⊢; exact h
  | .raw w, v, h => by unfold RV at h ⊢; exact h
  | .tup l, v, h => by
    unfold RV at h ⊢
    obtain ⟨a, ys, h1, h2, h3⟩ := h
    refine ⟨a, ys, h1, ?_, RVs.upd hD hl l ys h3⟩
    rcases h2 with (h2 | ⟨ob, h2⟩) | h2
    · exact .inl (.inl (by rw [upd_ne (fun z => by rw [z, hl] at h2; cases h2)]; exact h2))
    · exact .inl (.inr ⟨ob, by rw [upd_ne (fun z => by rw [z, hl] at h2; cases h2)]; exact h2⟩)
    · exact .inr h2
  | .fro l, v, h => by
    unfold RV at h ⊢
    obtain ⟨a, ys, h1, h2, h4, h5, h3⟩ := h
    exact ⟨a, ys, h1, h2, h4, by rw [upd_ne (fun z => by subst z; exact h4 hD)]; exact h5, RVs.upd hD hl l ys h3⟩
  | .scr l, v, h => by
    unfold RV at h ⊢
    obtain ⟨a, ys, h1, h2, h3⟩ := h
    refine ⟨a, ys, h1, ?_, RVs.upd hD hl l ys h3⟩
    rcases h2 with ⟨ob, h2⟩ | h2
    · exact .inl ⟨ob, by rw [upd_ne (fun z => by rw [z, hl] at h2; cases h2)]; exact h2⟩
    · exact .inr h2
  | .ref i, v, h => by unfold RV at h ⊢; exact h
  | .obj C ks vs, v, h => by
    unfold RV at h ⊢
    obtain ⟨a, dx, gs, h1, h2, h4, h5, h6, h3⟩ := h
    exact ⟨a, dx, gs, h1, h2, h4, by rw [upd_ne (fun z => by subst z; exact h4 hD)]; exact h5, h6, RVs.upd hD hl vs _ h3⟩
theorem RVs.upd {D : Addr} {xs : List V} {o : HO} (hD : D ∈ F) (hl : H D = some (.lst xs)) : ∀ (ds : List Val) (vs : List V), RVs K F φ H ds vs → RVs K F φ (L2.upd H D o) ds vs
  | [], vs, h => by unfold RVs at h ⊢; exact h
  | d :: ds, vs, h => by
    unfold RVs at h ⊢
    obtain ⟨v, ws, h1, h2, h3⟩ := h
    exact ⟨v, ws, h1, RV.upd hD hl d v h2, RVs.upd hD hl ds ws h3⟩
end
theorem RE.more {env : VEnv} {σ : L2.St} (hf : ∀ a ∈ F', a ∈ F ∨ H a = none) (r : RE K F φ H env σ) : RE K F' φ H env σ := ⟨r.1, fun i d h => by
  obtain ⟨v, h1, h2⟩ := r.2 i d h
  exact ⟨v, h1, RV.more hf d v h2⟩⟩
end

/-! ### targets -/
abbrev MG := Val → VEnv → Store → Option (VEnv × Store)
abbrev MGs := List Val → VEnv → Store → Option (VEnv × Store)
def AftG (K : Frg) (F φ : List Addr) (H : Hp) (ws : List Nat) (σ : L2.St) (S' : Store) (env' : VEnv) (Q : L2.St → Hp → Prop) : Prop :=
  ∀ φ' H' σ', Ext φ H φ' H' → Rp K F φ' S' H' → RE K F φ' H' env' σ' → (σ'.length = σ.length ∧ ∀ i, i ∉ ws → σ'[i]? = σ[i]?) → Q σ' H'
def ImG (K : Frg) (ws : List Nat) (t : TG) (m : MG) : Prop := ∀ F φ S H σ env d v env' S', Rp K F φ S H → RE K F φ H env σ → RV K F φ H d v → m d env S = some (env', S') → ∀ Q : L2.St → Hp → Prop, AftG K F φ H ws σ S' env' Q → t v σ H Q
def ImGs (K : Frg) (ws : List Nat) (t : TGs) (m : MGs) : Prop := ∀ F φ S H σ env d v env' S', Rp K F φ S H → RE K F φ H env σ → RVs K F φ H d v → m d env S = some (env', S') → ∀ Q : L2.St → Hp → Prop, AftG K F φ H ws σ S' env' Q → t v σ H Q
def GI (X : Cx) (ws : List Nat) (tg : Expr) (m : MG) : Prop := ∃ t, PG X tg t ∧ ImG X.K ws t m
def GsI (X : Cx) (ws : List Nat) (tg : List Expr) (m : MGs) : Prop := ∃ t, PGs X tg t ∧ ImGs X.K ws t m
def canG (K : Frg) (ws : List Nat) (m : MG) : TG := fun v σ H Q => ∃ F φ S env d env' S', Rp K F φ S H ∧ RE K F φ H env σ ∧ RV K F φ H d v ∧ m d env S = some (env', S') ∧ AftG K F φ H ws σ S' env' Q
theorem imG_can {K : Frg} {ws : List Nat} {m : MG} : ImG K ws (canG K ws m) m := fun F φ S H σ env d v env' S' R E r h Q a => ⟨F, φ, S, env, d, env', S', R, E, r, h, a⟩
theorem GI.can {X : Cx} {ws : List Nat} {tg : Expr} {m : MG} (h : GI X ws tg m) : PG X tg (canG X.K ws m) := by
  obtain ⟨t, p, i⟩ := h
  refine ⟨fun pins s σ H v u Q I rv q => ?_⟩
  obtain ⟨F, φ, S, env, d, env', S', R, E, r, h, a⟩ := q
  exact p.run pins s σ H v u Q I rv (i F φ S H σ env d v env' S' R E r h Q a)
def gN (i : Nat) : MG := fun d env S => some (env.set i (some d), S)
def gT (n : Nat) (m : MGs) : MG := fun d env S => match d with
  | .tup l => if l.length = n then m l env S else none
  | _ => none
def gNil' : MGs := fun ds env S => match ds with
  | [] => some (env, S)
  | _ => none
def gCons' (m : MG) (n : MGs) : MGs := fun ds env S => match ds with
  | d :: ds => bnd (m d env S) fun e S1 => n ds e S1
  | [] => none
def gIx (mo mi : ME) : MG := fun d env S => bnd (mo env S) fun o S1 => bnd (mi env S1) fun i S2 => match o, i with
  | .ref k, .int j => match S2[k]? with
    | some (.lst l) => (ixN l.length j).map fun n => (env, S2.set k (.lst (l.set n d)))
    | _ => none
  | _, _ => none
section
variable {X : Cx} {pos : Pos} {ws ws' : List Nat}
theorem AftG.mono {K : Frg} {F φ φ' : List Addr} {H H' : Hp} {S' : Store} {σ : L2.St} {env : VEnv} {Q : L2.St → Hp → Prop} (a : AftG K F φ H ws σ S' env Q) (e : Ext φ H φ' H') : AftG K F φ' H' ws σ S' env Q :=
  fun φ2 H2 σ2 e2 R E k => a φ2 H2 σ2 (e.trans e2) R E k
theorem gi_n {i : Nat} {x : Str} (hN : X.N.Nodup) (hi : X.N[i]? = some x) (hx : Loc X.env.scope x) (hf : X.fn x = true ∨ X.env.scope.names.lookup x = some .local := by first | exact .inl rfl | exact .inr rfl | assumption) : GI X [i] (.Name x pos) (gN i) := by
  refine ⟨_, pg_name hN hi hx hf, fun F φ S H σ env d v env' S' R E r h Q a => ?_⟩
  cases h
  refine a φ H (σ.set i (some v)) Ext.refl R (E.set r i) ⟨by simp, fun j hj => ?_⟩
  rw [List.getElem?_set_ne (fun z => hj (by simp [z]))]
theorem gsi_nil : GsI X [] [] gNil' := by
  refine ⟨_, pgs_nil, fun F φ S H σ env d v env' S' R E r h Q a => ?_⟩
  cases d with
  | nil =>
    cases h
    exact ⟨r.inv0, a φ H σ Ext.refl R E ⟨rfl, fun _ _ => rfl⟩⟩
  | cons _ _ => cases h
theorem gsi_cons {e : Expr} {es : List Expr} {m : MG} {n : MGs} (h1 : GI X ws e m) (h2 : GsI X ws' es n)
    (hs : (assignEach (e :: es) X.env).map (·.2) = assign e X.env :: (assignEach es X.env).map (·.2) := by rfl) : GsI X (ws ++ ws') (e :: es) (gCons' m n) := by
  obtain ⟨t, p, i⟩ := h1
  obtain ⟨u, q, j⟩ := h2
  refine ⟨_, pgs_cons p q hs, fun F φ S H σ env d v env' S' R E r h Q a => ?_⟩
  cases d with
  | nil => cases h
  | cons d ds =>
    obtain ⟨v0, vs, e1, r1, r2⟩ := r.inv
    obtain ⟨env1, S1, h1, h⟩ := bnd_some h
    refine ⟨v0, vs, e1, i F φ S H σ env d v0 env1 S1 R E r1 h1 _ fun φ1 H1 σ1 x1 R1 E1 k1 => ?_⟩
    refine j F φ1 S1 H1 σ1 env1 ds vs env' S' R1 E1 (RVs.mono x1 _ _ r2) h Q fun φ2 H2 σ2 x2 R2 E2 k2 => a φ2 H2 σ2 (x1.trans x2) R2 E2 ⟨k2.1.trans k1.1, fun z hz => ?_⟩
    rw [List.mem_append, not_or] at hz
    rw [k2.2 z hz.2, k1.2 z hz.1]
theorem gi_t {es : List Expr} {k : Nat} {m : MGs} {n : Nat} (hc : X.calm = true) (h : GsI X ws es m) (hn : (assignEach es X.env).length = n := by rfl) (hst : (assignEach es X.env).findIdx? (·.1) = none := by rfl) : GI X ws (.Tuple es k pos) (gT n m) := by
  obtain ⟨t, p, i⟩ := h
  refine ⟨_, pg_tup hc p hn hst, fun F φ S H σ env d v env' S' R E r h Q a => ?_⟩
  unfold gT at h
  split at h
  · rename_i l
    split at h
    · rename_i hl
      unfold RV at r
      obtain ⟨b, xs, e1, e2, e3⟩ := r
      exact ⟨b, xs, e1, e2, by rw [e3.length]; exact hl, i F φ S H σ env l xs env' S' R E e3 h Q a⟩
    · cases h
  · cases h
theorem gi_ix {o i : Expr} {mo mi : ME} (ho : EI X o mo) (hi : EI X i mi)
    (ha : ∀ v, assign (.Subscript o i pos) X.env v = (do
      let ov ← holding [v] (eval o X.env)
      let iv ← holding [v, ov] (eval i X.env)
      standAt pos
      holding [v, ov, iv] (setItem ov iv v)
      release [v, ov, iv] []) := by intro _; rfl) : GI X [] (.Subscript o i pos) (gIx mo mi) := by
  obtain ⟨t, p, ip⟩ := ho
  obtain ⟨u, q, iq⟩ := hi
  refine ⟨_, pg_sub p q set_list ha, fun F φ S H σ env d v env' S' R E r h Q a => ?_⟩
  obtain ⟨d1, S1, h1, h⟩ := bnd_some h
  obtain ⟨d2, S2, h2, h⟩ := bnd_some h
  refine ip F φ S H σ env d1 S1 R E h1 _ fun φ1 H1 v1 e1 R1 r1 => ?_
  refine iq F φ1 S1 H1 σ env d2 S2 R1 (E.mono e1) h2 _ fun φ2 H2 v2 e2 R2 r2 => ?_
  split at h
  · rename_i k j _
    split at h
    · rename_i l hl
      cases e0 : ixN l.length j with
      | none => rw [e0] at h; cases h
      | some n =>
        rw [e0] at h
        cases h
        have r1' := RV.mono e2 _ _ r1
        unfold RV at r1'
        obtain ⟨b, g1, g2⟩ := r1'
        obtain ⟨ys, k1, k2⟩ := R2.lst g2 hl
        have rd := RV.mono (e1.trans e2) _ _ r
        obtain ⟨e', R'⟩ := R2.set g2 hl (k2.set rd n)
        refine ⟨b, ys, j, n, g1, r2.int, k1, by rw [k2.length]; exact e0, ?_⟩
        exact a φ2 _ σ (e1.trans (e2.trans e')) R' (E.mono (e1.trans (e2.trans e'))) ⟨rfl, fun _ _ => rfl⟩
    · cases h
  · cases h
end

/-! ### statements -/
inductive Out where
  | nx (env : VEnv)
  | rt (d : Val)
  | bk (env : VEnv)
  | ct (env : VEnv)
abbrev MS := MM Out
def AftE (K : Frg) (F φ : List Addr) (H : Hp) (S' : Store) (env : VEnv) (Q : L2.St → Hp → Prop) : Prop := ∀ φ' H' σ', Ext φ H φ' H' → Rp K F φ' S' H' → RE K F φ' H' env σ' → Q σ' H'
def AftS (K : Frg) (F φ : List Addr) (H : Hp) (S' : Store) (D : Ends) : Out → Prop
  | .nx env => AftE K F φ H S' env D.nx
  | .rt d => Aft K F φ H S' d D.rt
  | .bk env => AftE K F φ H S' env D.bk
  | .ct env => AftE K F φ H S' env D.ct
def ImS (K : Frg) (t : TS) (m : MS) : Prop := ∀ F φ S H σ env o S', Rp K F φ S H → RE K F φ H env σ → m env S = some (o, S') → ∀ D : Ends, AftS K F φ H S' D o → t D σ H
def SI (X : Cx) (st : Stmt) (m : MS) : Prop := ∃ t, PS X st t ∧ ImS X.K t m
def BI (X : Cx) (sts : List Stmt) (m : MS) : Prop := ∃ t, PSs X sts t ∧ ImS X.K t m
theorem AftE.mono {K : Frg} {F φ φ' : List Addr} {H H' : Hp} {S' : Store} {env : VEnv} {Q : L2.St → Hp → Prop} (a : AftE K F φ H S' env Q) (e : Ext φ H φ' H') : AftE K F φ' H' S' env Q := fun φ2 H2 σ2 e2 R E => a φ2 H2 σ2 (e.trans e2) R E
theorem AftS.mono {K : Frg} {F φ φ' : List Addr} {H H' : Hp} {S' : Store} {D : Ends} {o : Out} (a : AftS K F φ H S' D o) (e : Ext φ H φ' H') : AftS K F φ' H' S' D o := by
  cases o with
  | nx env => exact AftE.mono a e
  | rt d => exact Aft.mono a e
  | bk env => exact AftE.mono a e
  | ct env => exact AftE.mono a e
def mSkip : MS := fun env S => some (.nx env, S)
def mThen (m n : MS) : MS := fun env S => bnd (m env S) fun o S1 => match o with
  | .nx e => n e S1
  | .rt d => some (.rt d, S1)
  | .bk e => some (.bk e, S1)
  | .ct e => some (.ct e, S1)
def mRet (m : ME) : MS := fun env S => bnd (m env S) fun d S1 => some (.rt d, S1)
def mRetN : MS := fun _ S => some (.rt .non, S)
def mDo (m : ME) : MS := fun env S => bnd (m env S) fun _ S1 => some (.nx env, S1)
def mWhen (c : MT) (m n : MS) : MS := fun env S => bnd (c env S) fun b S1 => if b = true then m env S1 else n env S1
def mSet (m : ME) (g : MG) : MS := fun env S => bnd (m env S) fun d S1 => bnd (g d env S1) fun e S2 => some (.nx e, S2)
def mBk : MS := fun env S => some (.bk env, S)
def mCt : MS := fun env S => some (.ct env, S)
section
variable {X : Cx} {st : Stmt} {rest : List Stmt} {m n : MS} {e : Expr} {me : ME} {pos : Pos}
theorem bi_nil : BI X [] mSkip := ⟨_, pss_nil, fun F φ S H σ env o S' R E h D a => by
  cases h
  exact a φ H σ Ext.refl R E⟩
theorem bi_cons (h : SI X st m) (g : BI X rest n) : BI X (st :: rest) (mThen m n) := by
  obtain ⟨t, p, i⟩ := h
  obtain ⟨u, q, j⟩ := g
  refine ⟨_, pss_cons p q, fun F φ S H σ env o S' R E h D a => ?_⟩
  obtain ⟨o1, S1, h1, h⟩ := bnd_some h
  refine i F φ S H σ env o1 S1 R E h1 { D with nx := u D } ?_
  cases o1 with
  | nx e1 => exact fun φ1 H1 σ1 x1 R1 E1 => j F φ1 S1 H1 σ1 e1 o S' R1 E1 h D (a.mono x1)
  | rt d =>
    cases h
    exact a
  | bk e1 =>
    cases h
    exact a
  | ct e1 =>
    cases h
    exact a
theorem bi_one (h : SI X st m) : BI X [st] m := by
  obtain ⟨t, p, i⟩ := h
  exact ⟨_, pss_one p, i⟩
theorem si_ret (h : EI X e me) : SI X (.Return (some e) pos) (mRet me) := by
  obtain ⟨t, p, i⟩ := h
  refine ⟨_, ps_ret p, fun F φ S H σ env o S' R E h D a => ?_⟩
  obtain ⟨d, S1, h1, h⟩ := bnd_some h
  cases h
  exact i F φ S H σ env d S' R E h1 D.rt a
theorem si_retN : SI X (.Return none pos) mRetN := ⟨_, ps_retN, fun F φ S H σ env o S' R E h D a => by
  cases h
  exact Aft.now (d := .non) a R rv_non⟩
theorem si_pass : SI X (.Pass pos) mSkip := ⟨_, ps_pass, fun F φ S H σ env o S' R E h D a => by
  cases h
  exact a φ H σ Ext.refl R E⟩
theorem si_bk : SI X (.Break pos) mBk := ⟨_, ps_break, fun F φ S H σ env o S' R E h D a => by
  cases h
  exact a φ H σ Ext.refl R E⟩
theorem si_ct : SI X (.Continue pos) mCt := ⟨_, ps_continue, fun F φ S H σ env o S' R E h D a => by
  cases h
  exact a φ H σ Ext.refl R E⟩
theorem si_expr (h : EI X e me) (hs : swapsWith e none pos.line X.env = pure false := by rfl) : SI X (.Expr e pos) (mDo me) := by
  obtain ⟨t, p, i⟩ := h
  refine ⟨_, ps_expr p hs, fun F φ S H σ env o S' R E h D a => ?_⟩
  obtain ⟨d, S1, h1, h⟩ := bnd_some h
  cases h
  exact i F φ S H σ env d S' R E h1 _ fun φ1 H1 v e1 R1 _ => a φ1 H1 σ e1 R1 (E.mono e1)
theorem si_if {c : Expr} {a b : List Stmt} {mc : MT} (hc : TI X c mc) (ha : BI X a m) (hb : BI X b n) : SI X (.If c a b pos) (mWhen mc m n) := by
  obtain ⟨t, p, i⟩ := hc
  obtain ⟨u, q, j⟩ := ha
  obtain ⟨w, r, k⟩ := hb
  refine ⟨_, ps_if p q r, fun F φ S H σ env o S' R E h D a => ?_⟩
  obtain ⟨b, S1, h1, h⟩ := bnd_some h
  refine i F φ S H σ env b S1 R E h1 _ fun φ1 H1 e1 R1 => ?_
  cases b with
  | true => exact j F φ1 S1 H1 σ env o S' R1 (E.mono e1) h D (a.mono e1)
  | false => exact k F φ1 S1 H1 σ env o S' R1 (E.mono e1) h D (a.mono e1)
theorem im_set {K : Frg} {t : TE} {g : TG} {ws : List Nat} {mg : MG} (i : Im K t me) (j : ImG K ws g mg) : ImS K (tAsg t g) (mSet me mg) := fun F φ S H σ env o S' R E h D a => by
  obtain ⟨d, S1, h1, h⟩ := bnd_some h
  obtain ⟨env1, S2, h2, h⟩ := bnd_some h
  cases h
  refine i F φ S H σ env d S1 R E h1 _ fun φ1 H1 v e1 R1 r1 => ?_
  exact j F φ1 S1 H1 σ env d v env1 S' R1 (E.mono e1) r1 h2 D.nx fun φ2 H2 σ2 e2 R2 E2 _ => a φ2 H2 σ2 (e1.trans e2) R2 E2
theorem si_asg {tg : Expr} {ws : List Nat} {mg : MG} (h : EI X e me) (hg : GI X ws tg mg) (hs : swapsWithSole [tg] e pos.line X.env = pure false := by rfl) (hw : swappedStores [tg] e X.env = pure none := by rfl)
    (h1 : (assignEach [tg] X.env).map (·.2) = [assign tg X.env] := by rfl) : SI X (.Assign [tg] e pos) (mSet me mg) := by
  obtain ⟨t, p, i⟩ := h
  obtain ⟨g, q, j⟩ := hg
  exact ⟨_, ps_asg p q hs hw h1, im_set i j⟩
theorem im_gn {K : Frg} {i : Nat} : ImG K [i] (gName i) (gN i) := fun F φ S H σ env d v env' S' R E r h Q a => by
  cases h
  refine a φ H (σ.set i (some v)) Ext.refl R (E.set r i) ⟨by simp, fun j hj => ?_⟩
  rw [List.getElem?_set_ne (fun z => hj (by simp [z]))]
theorem si_set {i : Nat} {x : Str} {pos' : Pos} (hN : X.N.Nodup) (hi : X.N[i]? = some x) (hx : Loc X.env.scope x) (h : EI X e me) (hs : swapsWith e (some (.Name x pos')) pos.line X.env = pure false := by rfl) (hf : X.fn x = true ∨ X.env.scope.names.lookup x = some .local := by first | exact .inl rfl | exact .inr rfl | assumption) :
    SI X (.Assign [.Name x pos'] e pos) (mSet me (gN i)) := by
  obtain ⟨t, p, j⟩ := h
  exact ⟨_, ps_set hN hi hx p hs hf, im_set j im_gn⟩
/-- a, b = x, y -/
def mPar (i j : Nat) (ms : MA) : MS := fun env S => bnd (ms env S) fun ds S1 => match ds with
  | [a, b] => some (.nx ((env.set i (some a)).set j (some b)), S1)
  | _ => none
theorem si_par {i j : Nat} {x y : Str} {a b : Expr} {ms : MA} {px py pt : Pos} {kt k2 pt2} (hc : X.calm = true) (hN : X.N.Nodup) (hi : X.N[i]? = some x) (hj : X.N[j]? = some y) (hij : i ≠ j)
    (hx : X.env.scope.names.lookup x = some .local) (hy : X.env.scope.names.lookup y = some .local) (ha : AI X [a, b] ms)
    (hw : swappedStores [.Tuple [.Name x px, .Name y py] kt pt] (.Tuple [a, b] k2 pt2) X.env = pure (some [x, y]))
    (hs : swapsWithSole [.Tuple [.Name x px, .Name y py] kt pt] (.Tuple [a, b] k2 pt2) pos.line X.env = pure false := by rfl) :
    SI X (.Assign [.Tuple [.Name x px, .Name y py] kt pt] (.Tuple [a, b] k2 pt2) pos) (mPar i j ms) := by
  obtain ⟨t, p, q⟩ := ha
  refine ⟨_, ps_par hc hN hi hj hij hx hy p hw hs, fun F φ S H σ env o S' R E h D a => ?_⟩
  obtain ⟨ds, S1, h1, h⟩ := bnd_some h
  split at h
  · rename_i d1 d2 _
    cases h
    refine q F φ S H σ env _ S' R E h1 _ fun φ1 H1 vs e1 R1 r1 => ?_
    obtain ⟨v, ws, g1, g2, g3⟩ := r1.inv
    obtain ⟨v', ws', k1, k2, k3⟩ := g3.inv
    refine ⟨v, v', by rw [g1, k1, k3.inv0], a φ1 H1 _ e1 R1 (((E.mono e1).set g2 i).set k2 j)⟩
  · cases h
/-- a, b, c = x, y, z -/
def mPar3 (i j l : Nat) (ms : MA) : MS := fun env S => bnd (ms env S) fun ds S1 => match ds with
  | [a, b, c] => some (.nx (((env.set i (some a)).set j (some b)).set l (some c)), S1)
  | _ => none
/-- name op= e -/
def mAug (i : Nat) (f : M2) (m : ME) : MS := fun env S => match env[i]? with
  | some (some x) => bnd (m env S) fun y S1 => bnd (f x y S1) fun z S2 => some (.nx (env.set i (some z)), S2)
  | _ => none
theorem si_aug {i : Nat} {x : Str} {op : Operator} {f : M2} {pos' : Pos} (hN : X.N.Nodup) (hi : X.N[i]? = some x) (hx : Loc X.env.scope x) (h : EI X e me) (ho : Op2 X (inplaceOp op) f) (hf : X.fn x = true ∨ X.env.scope.names.lookup x = some .local := by first | exact .inl rfl | exact .inr rfl | assumption) :
    SI X (.AugAssign (.Name x pos') op e pos) (mAug i f me) := by
  obtain ⟨t, p, j⟩ := h
  obtain ⟨r, q, k⟩ := ho
  refine ⟨_, ps_aug hN hi hx p (ti := r) (fun pins s σ H x y v u Q I r1 r2 h => q pins s σ H x y v u Q I r1 r2 h) hf, fun F φ S H σ env o S' R E h D a => ?_⟩
  unfold mAug at h
  split at h
  · rename_i d hd
    obtain ⟨v, g1, g2⟩ := E.2 i d hd
    obtain ⟨y, S1, h1, h⟩ := bnd_some h
    obtain ⟨z, S2, h2, h⟩ := bnd_some h
    cases h
    refine ⟨v, g1, j F φ S H σ env y S1 R E h1 _ fun φ1 H1 w e1 R1 r1 => ?_⟩
    refine k F φ1 S1 H1 d y v w z S' R1 (RV.mono e1 _ _ g2) r1 h2 _ fun φ2 H2 u e2 R2 r2 => ?_
    exact a φ2 H2 _ (e1.trans e2) R2 ((E.mono (e1.trans e2)).set r2 i)
  · cases h
end

/-! ### while -/
def whN (c : MT) (b : MS) : Nat → MS
  | 0 => fun _ _ => none
  | n + 1 => fun env S => bnd (c env S) fun t S1 => if t = true then bnd (b env S1) fun o S2 => match o with
    | .nx e => whN c b n e S2
    | .ct e => whN c b n e S2
    | .bk e => some (.nx e, S2)
    | .rt d => some (.rt d, S2)
    else some (.nx env, S1)
theorem whN_more {c : MT} {b : MS} : ∀ (n : Nat) (env : VEnv) (S : Store) r, whN c b n env S = some r → whN c b (n + 1) env S = some r
  | 0, env, S, r, h => by cases h
  | n + 1, env, S, r, h => by
    unfold whN at h ⊢
    obtain ⟨t, S1, h1, h⟩ := bnd_some (r := r) h
    rw [h1]
    show (if t = true then _ else _) = _
    dsimp only [bnd] at h ⊢
    by_cases ht : t = true
    · rw [if_pos ht] at h ⊢
      obtain ⟨o, S2, h2, h⟩ := bnd_some (r := r) h
      rw [h2]
      cases o with
      | nx e => exact whN_more n e S2 r h
      | ct e => exact whN_more n e S2 r h
      | bk e => exact h
      | rt d => exact h
    · rw [if_neg ht] at h ⊢
      exact h
theorem whN_le {c : MT} {b : MS} {n k : Nat} (hk : n ≤ k) {env : VEnv} {S : Store} {r} (h : whN c b n env S = some r) : whN c b k env S = some r := by
  induction hk with
  | refl => exact h
  | step _ ih => exact whN_more _ _ _ _ ih
open Classical in
noncomputable def mWhile (c : MT) (b : MS) : MS := fun env S => if h : ∃ r, ∃ n, whN c b n env S = some r then some (Classical.choose h) else none
theorem mWhile_spec {c : MT} {b : MS} {env : VEnv} {S : Store} {r} (h : mWhile c b env S = some r) : ∃ n, whN c b n env S = some r := by
  unfold mWhile at h
  split at h
  · rename_i q
    cases h
    exact Classical.choose_spec q
  · cases h
theorem mWhile_of {c : MT} {b : MS} {env : VEnv} {S : Store} {r} {n : Nat} (h : whN c b n env S = some r) : mWhile c b env S = some r := by
  have q : ∃ r, ∃ n, whN c b n env S = some r := ⟨r, n, h⟩
  unfold mWhile
  rw [dif_pos q]
  obtain ⟨k, hk⟩ := Classical.choose_spec q
  have e1 := whN_le (Nat.le_max_left n k) h
  have e2 := whN_le (Nat.le_max_right n k) hk
  rw [e1] at e2
  cases e2
  rfl
theorem si_while {X : Cx} {c : Expr} {body : List Stmt} {mc : MT} {mb : MS} {pos : Pos} (hp : PassesOwn (model X.prog X.w) X.A X.env X.xe) (hc : TI X c mc) (hb : BI X body mb) : SI X (.While c body [] pos) (mWhile mc mb) := by
  obtain ⟨t, p, i⟩ := hc
  obtain ⟨u, q, j⟩ := hb
  refine ⟨_, ps_while hp p q, fun F φ S H σ env o S' R E h D a => ?_⟩
  obtain ⟨n, h⟩ := mWhile_spec h
  refine ⟨fun k σ1 H1 => ∃ φ1 S1 env1, Ext φ H φ1 H1 ∧ Rp X.K F φ1 S1 H1 ∧ RE X.K F φ1 H1 env1 σ1 ∧ whN mc mb k env1 S1 = some (o, S'), ⟨n, φ, S, env, Ext.refl, R, E, h⟩, ?_⟩
  rintro k σ1 H1 ⟨φ1, S1, env1, x1, R1, E1, h1⟩
  cases k with
  | zero => cases h1
  | succ k =>
    unfold whN at h1
    obtain ⟨b, S2, h2, h1⟩ := bnd_some (r := (o, S')) h1
    refine i F φ1 S1 H1 σ1 env1 b S2 R1 E1 h2 _ fun φ2 H2 x2 R2 => ?_
    have E2 := E1.mono x2
    cases b with
    | false =>
      rw [if_neg Bool.false_ne_true] at h1 ⊢
      cases h1
      exact a φ2 H2 σ1 (x1.trans x2) R2 E2
    | true =>
      rw [if_pos rfl] at h1 ⊢
      obtain ⟨o1, S3, h3, h1⟩ := bnd_some (r := (o, S')) h1
      refine ⟨fun σ3 H3 => ∃ φ3 S3 env3, Ext φ H φ3 H3 ∧ Rp X.K F φ3 S3 H3 ∧ RE X.K F φ3 H3 env3 σ3 ∧ whN mc mb k env3 S3 = some (o, S'), fun σ3 H3 w => ⟨k, Nat.lt_succ_self k, w⟩, ?_⟩
      refine j F φ2 S2 H2 σ1 env1 o1 S3 R2 E2 h3 _ ?_
      cases o1 with
      | nx e => exact fun φ3 H3 σ3 x3 R3 E3 => ⟨φ3, S3, e, x1.trans (x2.trans x3), R3, E3, h1⟩
      | ct e => exact fun φ3 H3 σ3 x3 R3 E3 => ⟨φ3, S3, e, x1.trans (x2.trans x3), R3, E3, h1⟩
      | bk e =>
        cases h1
        exact fun φ3 H3 σ3 x3 R3 E3 => a φ3 H3 σ3 (x1.trans (x2.trans x3)) R3 E3
      | rt d =>
        cases h1
        exact fun φ3 H3 v x3 R3 r3 => a φ3 H3 v (x1.trans (x2.trans x3)) R3 r3
end Fx
/-! What is walked; for; list comprehensions. -/
namespace Fx
open PySem PySem.Spec PyProof.Rows L2

/-- an iterator that gives the items, whatever is made meanwhile -/
def WalkI (K : Frg) (F : List Addr) (φ₀ : List Addr) (H₀ : Hp) (J : It) (items : List Val) : Prop :=
  ∀ F' φ S H, (∀ a ∈ F', a ∈ F ∨ H₀ a = none) → Ext φ₀ H₀ φ H → Rp K F' φ S H → (∀ i, i < items.length → J.go i H) ∧ J.stop items.length H ∧
    ∀ i x H', i < items.length → J.yld i H x H' → ∃ d, items[i]? = some d ∧ Ext φ H φ H' ∧ Rp K F' φ S H' ∧ RV K F' φ H' d x
def AftI (K : Frg) (F φ : List Addr) (H : Hp) (S' : Store) (items : List Val) (R : It → Hp → Prop) : Prop := ∀ φ' H' J, Ext φ H φ' H' → Rp K F φ' S' H' → WalkI K F φ' H' J items → R J H'
def ImI (K : Frg) (t : L2.TI) (m : MA) : Prop := ∀ F φ S H σ env ds S', Rp K F φ S H → RE K F φ H env σ → m env S = some (ds, S') → ∀ R : It → Hp → Prop, AftI K F φ H S' ds R → t σ H R
def II (X : Cx) (tg e : Expr) (m : MA) : Prop := ∃ t, PI X tg e t ∧ ImI X.K t m
theorem Ext.upT {φ : List Addr} {H : Hp} {T : Addr} {o : HO} (h : H T = none) : Ext φ H φ (upd H T o) := Ext.new h
section
variable {K : Frg} {F φ : List Addr} {H : Hp}
theorem walk_l {a : Addr} {l : List Val} {xs : List V} (hs : ∀ F' φ' S H', (∀ a ∈ F', a ∈ F ∨ H a = none) → Ext φ H φ' H' → Rp K F' φ' S H' → SqL K H' a xs) (r : RVs K F φ H l xs) : WalkI K F φ H (Itl K a) l := fun F' φ' S H' hf e R => by
  have q := hs F' φ' S H' hf e R
  have r' := RVs.mono e _ _ (RVs.more hf _ _ r)
  refine ⟨fun i hi => ?_, ⟨xs, q, by rw [r.length]; exact Nat.le_refl _⟩, fun i x H2 hi y => ?_⟩
  · obtain ⟨v, h1, _⟩ := r.get (List.getElem?_eq_getElem hi)
    exact ⟨xs, v, q, h1⟩
  · obtain ⟨rfl, y⟩ := y
    obtain ⟨d, h1, h2⟩ := r'.get' (y xs q)
    exact ⟨d, h1, Ext.refl, R, h2⟩
theorem walk_t {a : Addr} {l : List Val} {xs : List V} (hs : SqT K H a xs) (r : RVs K F φ H l xs) : WalkI K F φ H (Itt K a) l := fun F' φ' S H' hf e R => by
  have q : SqT K H' a xs := e.sqT hs
  have r' := RVs.mono e _ _ (RVs.more hf _ _ r)
  refine ⟨fun i hi => ?_, ⟨xs, q, by rw [r.length]; exact Nat.le_refl _⟩, fun i x H2 hi y => ?_⟩
  · obtain ⟨v, h1, _⟩ := r.get (List.getElem?_eq_getElem hi)
    exact ⟨xs, v, q, h1⟩
  · obtain ⟨rfl, y⟩ := y
    obtain ⟨d, h1, h2⟩ := r'.get' (y xs q)
    exact ⟨d, h1, Ext.refl, R, h2⟩
/-- a list that stays, as something to be read later -/
theorem stay_fro {a : Addr} {xs : List V} (n : a ∉ φ) (h : H a = some (.lst xs)) : ∀ F' φ' (S : Store) H', (∀ a ∈ F', a ∈ F ∨ H a = none) → Ext φ H φ' H' → Rp K F' φ' S H' → SqL K H' a xs := fun _ _ _ _ _ e _ => SqL.of (e.old _ _ h n)
theorem stay_scr {a : Addr} {xs : List V} (h : Scr K H a xs) : ∀ F' φ' (S : Store) H', (∀ a ∈ F', a ∈ F ∨ H a = none) → Ext φ H φ' H' → Rp K F' φ' S H' → SqL K H' a xs := fun _ _ _ _ _ e _ => (e.scr h).sq
/-- a value that stays a list -/
def froOf : Val → Option (List Val)
  | .fro l => some l
  | .scr l => some l
  | _ => none
theorem fro_of {d : Val} {v : V} {l : List Val} (e : froOf d = some l) (r : RV K F φ H d v) : ∃ a xs, v = .ref a ∧ RVs K F φ H l xs ∧ SqL K H a xs ∧
    ∀ F' φ' (S : Store) H', (∀ a ∈ F', a ∈ F ∨ H a = none) → Ext φ H φ' H' → Rp K F' φ' S H' → SqL K H' a xs := by
  cases d with
  | fro l' =>
    cases e
    unfold RV at r
    obtain ⟨a, xs, h1, h2, h3, h4, h5⟩ := r
    exact ⟨a, xs, h1, h5, SqL.of h4, stay_fro h2 h4⟩
  | scr l' =>
    cases e
    unfold RV at r
    obtain ⟨a, xs, h1, h2, h3⟩ := r
    exact ⟨a, xs, h1, h3, h2.sq, stay_scr h2⟩
  | _ => cases e
end
def signs (z : Str) : List Val := z.cps.toList.map fun c => .str ⟨#[c]⟩
def mItems (m : ME) : MA := fun env S => bnd (m env S) fun d S1 => match d with
  | .tup l => some (l, S1)
  | .str z => some (signs z, S1)
  | d => (froOf d).map fun l => (l, S1)
def rangeV (lo : Int) (n : Nat) : List Val := (List.range n).map fun i => .int (lo + (i : Nat))
def mRng1 (ms : MA) : MA := fun env S => bnd (ms env S) fun ds S1 => match ds with
  | [.int j] => if -(2 ^ 62) ≤ j ∧ j < 2 ^ 62 then some (rangeV 0 j.toNat, S1) else none
  | _ => none
def mRng2 (ms : MA) : MA := fun env S => bnd (ms env S) fun ds S1 => match ds with
  | [.int i, .int j] => if -(2 ^ 62) ≤ i ∧ i < 2 ^ 62 ∧ -(2 ^ 62) ≤ j ∧ j < 2 ^ 62 then some (rangeV i (j - i).toNat, S1) else none
  | _ => none
def mEnum (ms : MA) : MA := fun env S => bnd (ms env S) fun ds S1 => match ds with
  | [d] => (froOf d).map fun l => (l.mapIdx fun i x => .tup [.int (i : Nat), x], S1)
  | _ => none
def mZip (ms : MA) : MA := fun env S => bnd (ms env S) fun ds S1 => match ds with
  | [.tup l, .tup k] => some (List.zipWith (fun x y => .tup [x, y]) l k, S1)
  | [a, b] => (froOf a).bind fun l => (froOf b).map fun k => (List.zipWith (fun x y => .tup [x, y]) l k, S1)
  | _ => none
section
variable {K : Frg} {F φ : List Addr} {H : Hp}
theorem walk_rng {lo : Int} {n : Nat} : WalkI K F φ H (Itr lo n) (rangeV lo n) := fun F' φ' S H' hf e R => by
  have hl : (rangeV lo n).length = n := by unfold rangeV; simp
  refine ⟨fun i hi => by rw [hl] at hi; exact hi, by rw [hl]; exact Nat.le_refl _, fun i x H2 hi y => ?_⟩
  obtain ⟨rfl, rfl⟩ := y
  rw [hl] at hi
  refine ⟨.int (lo + (i : Nat)), ?_, Ext.refl, R, rv_int⟩
  unfold rangeV
  rw [List.getElem?_map, List.getElem?_range hi]
  rfl
theorem walk_s {z : Str} : WalkI K F φ H (Its z) (signs z) := fun F' φ' S H' hf e R => by
  have hl : (signs z).length = z.cps.size := by unfold signs; simp
  refine ⟨fun i hi => by rw [hl] at hi; exact hi, by rw [hl]; exact Nat.le_refl _, fun i x H2 hi y => ?_⟩
  obtain ⟨rfl, c, h1, rfl⟩ := y
  refine ⟨.str ⟨#[c]⟩, ?_, Ext.refl, R, rv_str⟩
  unfold signs
  rw [List.getElem?_map, Array.getElem?_toList, h1]
  rfl
theorem walk_e {a : Addr} {l : List Val} {xs : List V} (hs : ∀ F' φ' S H', (∀ a ∈ F', a ∈ F ∨ H a = none) → Ext φ H φ' H' → Rp K F' φ' S H' → SqL K H' a xs) (r : RVs K F φ H l xs) :
    WalkI K F φ H (Ite K a) (l.mapIdx fun i x => .tup [.int (i : Nat), x]) := fun F' φ' S H' hf e R => by
  have q := hs F' φ' S H' hf e R
  have r' := RVs.mono e _ _ (RVs.more hf _ _ r)
  have hl : (l.mapIdx fun i x => Val.tup [.int (i : Nat), x]).length = l.length := List.length_mapIdx
  refine ⟨fun i hi => ?_, ⟨xs, q, by rw [hl, r.length]; exact Nat.le_refl _⟩, fun i x H2 hi y => ?_⟩
  · rw [hl] at hi
    obtain ⟨v, h1, _⟩ := r.get (List.getElem?_eq_getElem hi)
    exact ⟨xs, v, q, h1⟩
  · obtain ⟨T, x', rfl, hT, rfl, y⟩ := y
    obtain ⟨d, h1, h2⟩ := r'.get' (y xs q)
    refine ⟨.tup [.int (i : Nat), d], ?_, Ext.new hT, R.new hT, ?_⟩
    · rw [List.getElem?_mapIdx, h1]
      rfl
    · unfold RV
      exact ⟨T, _, rfl, SqT.of upd_same, .cons rv_int (.cons (RV.mono (Ext.new hT) _ _ h2) .nil)⟩
theorem walk_z {a b : Addr} {l k : List Val} {xs ys : List V} (hs : ∀ F' φ' S H', (∀ a ∈ F', a ∈ F ∨ H a = none) → Ext φ H φ' H' → Rp K F' φ' S H' → SqL K H' a xs) (r : RVs K F φ H l xs)
    (gs : ∀ F' φ' S H', (∀ a ∈ F', a ∈ F ∨ H a = none) → Ext φ H φ' H' → Rp K F' φ' S H' → SqL K H' b ys) (r2 : RVs K F φ H k ys) :
    WalkI K F φ H (Itz K a b) (List.zipWith (fun x y => .tup [x, y]) l k) := fun F' φ' S H' hf e R => by
  have q := hs F' φ' S H' hf e R
  have q2 := gs F' φ' S H' hf e R
  have r' := RVs.mono e _ _ (RVs.more hf _ _ r)
  have r2' := RVs.mono e _ _ (RVs.more hf _ _ r2)
  have hl : (List.zipWith (fun x y => Val.tup [x, y]) l k).length = min l.length k.length := List.length_zipWith
  have l1 := r.length
  have l2 := r2.length
  refine ⟨fun i hi => ?_, ⟨xs, ys, q, q2, by rw [hl, l1, l2]; omega⟩, fun i x H2 hi y => ?_⟩
  · rw [hl] at hi
    obtain ⟨v, h1, _⟩ := r.get (List.getElem?_eq_getElem (i := i) (by omega))
    obtain ⟨v2, h2, _⟩ := r2.get (List.getElem?_eq_getElem (i := i) (by omega))
    exact ⟨xs, ys, v, v2, q, q2, h1, h2⟩
  · obtain ⟨T, x', y', rfl, hT, rfl, g1, g2⟩ := y
    obtain ⟨d, h1, h2⟩ := r'.get' (g1 xs q)
    obtain ⟨d2, h3, h4⟩ := r2'.get' (g2 ys q2)
    refine ⟨.tup [d, d2], ?_, Ext.new hT, R.new hT, ?_⟩
    · rw [List.getElem?_zipWith, h1, h3]
    · unfold RV
      exact ⟨T, _, rfl, SqT.of upd_same, .cons (RV.mono (Ext.new hT) _ _ h2) (.cons (RV.mono (Ext.new hT) _ _ h4) .nil)⟩
theorem walk_zt {a b : Addr} {l k : List Val} {xs ys : List V} (hs : SqT K H a xs) (r : RVs K F φ H l xs) (gs : SqT K H b ys) (r2 : RVs K F φ H k ys) :
    WalkI K F φ H (RZ.ItzT K a b) (List.zipWith (fun x y => .tup [x, y]) l k) := fun F' φ' S H' hf e R => by
  have q : SqT K H' a xs := e.sqT hs
  have q2 : SqT K H' b ys := e.sqT gs
  have r' := RVs.mono e _ _ (RVs.more hf _ _ r)
  have r2' := RVs.mono e _ _ (RVs.more hf _ _ r2)
  have hl : (List.zipWith (fun x y => Val.tup [x, y]) l k).length = min l.length k.length := List.length_zipWith
  have l1 := r.length
  have l2 := r2.length
  refine ⟨fun i hi => ?_, ⟨xs, ys, q, q2, by rw [hl, l1, l2]; omega⟩, fun i x H2 hi y => ?_⟩
  · rw [hl] at hi
    obtain ⟨v, h1, _⟩ := r.get (List.getElem?_eq_getElem (i := i) (by omega))
    obtain ⟨v2, h2, _⟩ := r2.get (List.getElem?_eq_getElem (i := i) (by omega))
    exact ⟨xs, ys, v, v2, q, q2, h1, h2⟩
  · obtain ⟨T, x', y', rfl, hT, rfl, g1, g2⟩ := y
    obtain ⟨d, h1, h2⟩ := r'.get' (g1 xs q)
    obtain ⟨d2, h3, h4⟩ := r2'.get' (g2 ys q2)
    refine ⟨.tup [d, d2], ?_, Ext.new hT, R.new hT, ?_⟩
    · rw [List.getElem?_zipWith, h1, h3]
    · unfold RV
      exact ⟨T, _, rfl, SqT.of upd_same, .cons (RV.mono (Ext.new hT) _ _ h2) (.cons (RV.mono (Ext.new hT) _ _ h4) .nil)⟩
end
/-- one source or the other -/
theorem pi_or {X : Cx} {tg e : Expr} {t u : L2.TI} (h : PI X tg e t) (g : PI X tg e u) : PI X tg e (fun σ H R => t σ H R ∨ u σ H R) := ⟨fun pins s σ H R I q => by
  rcases q with q | q
  · exact h.run pins s σ H R I q
  · exact g.run pins s σ H R I q⟩
section
variable {X : Cx} {tg e e2 : Expr} {m : ME} {ms : MA} {p pos : Pos}
theorem ii_v (h : EI X e m) : II X tg e (mItems m) := by
  obtain ⟨t, p, i⟩ := h
  refine ⟨_, pi_or (pi_list p) (pi_or (pi_tup p) (pi_str p)), fun F φ S H σ env ds S' R E h Q a => ?_⟩
  obtain ⟨d, S1, h1, h⟩ := bnd_some h
  split at h
  · rename_i l _
    cases h
    refine .inr (.inl (i F φ S H σ env _ S' R E h1 _ fun φ1 H1 v e1 R1 r1 => ?_))
    unfold RV at r1
    obtain ⟨b, xs, g1, g2, g3⟩ := r1
    exact ⟨b, g1, ⟨xs, g2⟩, a φ1 H1 _ e1 R1 (walk_t g2 g3)⟩
  · cases h
    refine .inr (.inr (i F φ S H σ env _ S' R E h1 _ fun φ1 H1 v e1 R1 r1 => ?_))
    exact ⟨_, r1.str, a φ1 H1 _ e1 R1 walk_s⟩
  · cases e0 : froOf d with
    | none => rw [e0] at h; cases h
    | some l =>
      rw [e0] at h
      cases h
      refine .inl (i F φ S H σ env _ S' R E h1 _ fun φ1 H1 v e1 R1 r1 => ?_)
      obtain ⟨b, xs, g1, g2, g3, g4⟩ := fro_of e0 r1
      exact ⟨b, g1, ⟨xs, g3⟩, a φ1 H1 _ e1 R1 (walk_l g4 g2)⟩
theorem ii_rng1 (hg : Gl X "range") (hm : X.mg "range" = none) (ha : AI X [e] ms) (hs : starEach [e] X.env = [(false, eval e X.env)] := by rfl) : II X tg (.Call (.Name "range" p) [e] [] pos) (mRng1 ms) := by
  obtain ⟨t, p, i⟩ := ha
  refine ⟨_, pi_range1 hg hm p hs, fun F φ S H σ env ds S' R E h Q a => ?_⟩
  obtain ⟨d, S1, h1, h⟩ := bnd_some h
  split at h
  · split at h
    · rename_i hz
      cases h
      refine i F φ S H σ env _ S' R E h1 _ fun φ1 H1 vs e1 R1 r1 => ?_
      obtain ⟨v, ws, g1, g2, g3⟩ := r1.inv
      exact ⟨_, by rw [g1, g3.inv0, g2.int], hz.1, hz.2, a φ1 H1 _ e1 R1 walk_rng⟩
    · cases h
  · cases h
theorem ii_rng2 (hg : Gl X "range") (hm : X.mg "range" = none) (ha : AI X [e, e2] ms) (hs : starEach [e, e2] X.env = [(false, eval e X.env), (false, eval e2 X.env)] := by rfl) (hs2 : starEach [e2] X.env = [(false, eval e2 X.env)] := by rfl) :
    II X tg (.Call (.Name "range" p) [e, e2] [] pos) (mRng2 ms) := by
  obtain ⟨t, p, i⟩ := ha
  refine ⟨_, pi_range2 hg hm p hs hs2, fun F φ S H σ env ds S' R E h Q a => ?_⟩
  obtain ⟨d, S1, h1, h⟩ := bnd_some h
  split at h
  · split at h
    · rename_i hz
      cases h
      refine i F φ S H σ env _ S' R E h1 _ fun φ1 H1 vs e1 R1 r1 => ?_
      obtain ⟨v, ws, g1, g2, g3⟩ := r1.inv
      obtain ⟨v', ws', k1, k2, k3⟩ := g3.inv
      exact ⟨_, _, by rw [g1, k1, k3.inv0, g2.int, k2.int], hz, a φ1 H1 _ e1 R1 walk_rng⟩
    · cases h
  · cases h
theorem ii_enum {tpos : Pos} {elts : List Expr} {kk : Nat} (hg : Gl X "enumerate") (hm : X.mg "enumerate" = none) (ha : AI X [e] ms) (hs : starEach [e] X.env = [(false, eval e X.env)] := by rfl) :
    II X (.Tuple elts kk tpos) (.Call (.Name "enumerate" p) [e] [] pos) (mEnum ms) := by
  obtain ⟨t, p, i⟩ := ha
  refine ⟨_, pi_enum hg hm p hs, fun F φ S H σ env ds S' R E h0 Q a => ?_⟩
  obtain ⟨d, S1, h1, h⟩ := bnd_some h0
  clear h0
  split at h
  · rename_i d0
    cases e0 : froOf d0 with
    | none => rw [e0] at h; cases h
    | some l =>
      rw [e0] at h
      cases h
      refine i F φ S H σ env _ S' R E h1 _ fun φ1 H1 vs e1 R1 r1 => ?_
      obtain ⟨v, ws, g1, g2, g3⟩ := r1.inv
      obtain ⟨b, xs, k1, k2, k3, k4⟩ := fro_of e0 g2
      exact ⟨b, xs, by rw [g1, g3.inv0, k1], k3, a φ1 H1 _ e1 R1 (walk_e k4 k2)⟩
  · cases h
theorem ii_zip {tpos : Pos} {elts : List Expr} {kk : Nat} (hg : Gl X "zip") (hm : X.mg "zip" = none) (ha : AI X [e, e2] ms)
    (hs : starEach [e, e2] X.env = (false, eval e X.env) :: starEach [e2] X.env := by rfl) (hpl : (backTo pos (starEach [e2] X.env)).any (·.1) = false := by rfl) :
    II X (.Tuple elts kk tpos) (.Call (.Name "zip" p) [e, e2] [] pos) (mZip ms) := by
  obtain ⟨t, p, i⟩ := ha
  refine ⟨_, RZ.pi_zipA hg hm p hs hpl, fun F φ S H σ env ds S' R E h0 Q a => ?_⟩
  obtain ⟨d, S1, h1, h⟩ := bnd_some h0
  clear h0
  split at h
  · rename_i l k
    cases h
    refine i F φ S H σ env _ S' R E h1 _ fun φ1 H1 vs e1 R1 r1 => ?_
    obtain ⟨v, ws, g1, g2, g3⟩ := r1.inv
    obtain ⟨v', ws', k1, k2, k3⟩ := g3.inv
    unfold RV at g2 k2
    obtain ⟨b, xs, q1, q2, q3⟩ := g2
    obtain ⟨b', xs', q1', q2', q3'⟩ := k2
    exact ⟨b, b', xs, xs', by rw [g1, k1, k3.inv0, q1, q1'], .inr ⟨q2, q2', a φ1 H1 _ e1 R1 (walk_zt q2 q3 q2' q3')⟩⟩
  · rename_i d1 d2 _
    cases e0 : froOf d1 with
    | none => rw [e0] at h; cases h
    | some l =>
      rw [e0] at h
      simp only [Option.bind_some] at h
      cases e1 : froOf d2 with
      | none => rw [e1] at h; cases h
      | some k =>
        rw [e1] at h
        cases h
        refine i F φ S H σ env _ S' R E h1 _ fun φ1 H1 vs x1 R1 r1 => ?_
        obtain ⟨v, ws, g1, g2, g3⟩ := r1.inv
        obtain ⟨v', ws', k1, k2, k3⟩ := g3.inv
        obtain ⟨b, xs, q1, q2, q3, q4⟩ := fro_of e0 g2
        obtain ⟨b', xs', q1', q2', q3', q4'⟩ := fro_of e1 k2
        exact ⟨b, b', xs, xs', by rw [g1, k1, k3.inv0, q1, q1'], .inl ⟨q3, q3', a φ1 H1 _ x1 R1 (walk_z q4 q2 q4' q2')⟩⟩
  · cases h
end

/-! ### for -/
def forL (g : MG) (b : MS) : List Val → MS
  | [] => fun env S => some (.nx env, S)
  | x :: xs => fun env S => bnd (g x env S) fun env1 S1 => bnd (b env1 S1) fun o S2 => match o with
    | .nx e => forL g b xs e S2
    | .ct e => forL g b xs e S2
    | .bk e => some (.nx e, S2)
    | .rt d => some (.rt d, S2)
def mFor (mi : MA) (g : MG) (b : MS) : MS := fun env S => bnd (mi env S) fun items S1 => forL g b items env S1
theorem si_for {X : Cx} {tg iter : Expr} {body : List Stmt} {mi : MA} {ws : List Nat} {mg : MG} {mb : MS} {pos : Pos} (hp : PassesOwn (model X.prog X.w) X.A X.env X.xe) (hc : X.calm = true) (hi : II X tg iter mi) (hg : GI X ws tg mg) (hb : BI X body mb)
    (hs : ∀ x, foldedSetIterable iter X.env x = pure x := by intro _; rfl) : SI X (.For tg iter body [] pos) (mFor mi mg mb) := by
  obtain ⟨ti, pi, ii⟩ := hi
  obtain ⟨tg', pg, ig⟩ := hg
  obtain ⟨tb, pb, ib⟩ := hb
  refine ⟨_, ps_for hp hc pi pg pb hs, fun F φ S H σ env o S' R E h D a => ?_⟩
  obtain ⟨items, S1, h1, h⟩ := bnd_some h
  refine ii F φ S H σ env items S1 R E h1 _ fun φ1 H1 J x1 R1 Wk => ?_
  refine ⟨fun i k σ2 H2 => ∃ φ2 S2 env2, Ext φ1 H1 φ2 H2 ∧ Rp X.K F φ2 S2 H2 ∧ RE X.K F φ2 H2 env2 σ2 ∧ forL mg mb (items.drop i) env2 S2 = some (o, S') ∧ i ≤ items.length ∧ k = items.length - i,
    ⟨items.length, φ1, S1, env, Ext.refl, R1, E.mono x1, by rw [List.drop_zero]; exact h, Nat.zero_le _, by omega⟩, ?_⟩
  rintro i k σ2 H2 ⟨φ2, S2, env2, x2, R2, E2, h2, hi, rfl⟩
  obtain ⟨w1, w2, w3⟩ := Wk F φ2 S2 H2 (fun a ha => .inl ha) x2 R2
  by_cases hlt : i < items.length
  · refine .inr ⟨w1 i hlt, fun σ3 H3 => ∃ φ3 S3 env3, Ext φ1 H1 φ3 H3 ∧ Rp X.K F φ3 S3 H3 ∧ RE X.K F φ3 H3 env3 σ3 ∧ forL mg mb (items.drop (i + 1)) env3 S3 = some (o, S'), fun σ3 H3 ⟨φ3, S3, env3, q1, q2, q3, q4⟩ => ⟨items.length - (i + 1), by omega, φ3, S3, env3, q1, q2, q3, q4, hlt, rfl⟩, fun x H3 y => ?_⟩
    obtain ⟨d, hd, y1, y2, y3⟩ := w3 i x H3 hlt y
    have ed : items.drop i = d :: items.drop (i + 1) := by
      rw [List.drop_eq_getElem_cons hlt]
      rw [List.getElem?_eq_getElem hlt] at hd
      cases hd
      rfl
    rw [ed] at h2
    unfold forL at h2
    obtain ⟨env3, S3, h3, h2⟩ := bnd_some (r := (o, S')) h2
    obtain ⟨o4, S4, h4, h2⟩ := bnd_some (r := (o, S')) h2
    refine ig F φ2 S2 H3 σ2 env2 d x env3 S3 y2 (E2.mono y1) y3 h3 _ fun φ4 H4 σ4 x4 R4 E4 _ => ?_
    refine ib F φ4 S3 H4 σ4 env3 o4 S4 R4 E4 h4 _ ?_
    have xx := x2.trans (y1.trans x4)
    cases o4 with
    | nx e => exact fun φ5 H5 σ5 x5 R5 E5 => ⟨φ5, S4, e, xx.trans x5, R5, E5, h2⟩
    | ct e => exact fun φ5 H5 σ5 x5 R5 E5 => ⟨φ5, S4, e, xx.trans x5, R5, E5, h2⟩
    | bk e =>
      cases h2
      exact fun φ5 H5 σ5 x5 R5 E5 => a φ5 H5 σ5 (x1.trans (xx.trans x5)) R5 E5
    | rt d =>
      cases h2
      exact fun φ5 H5 v x5 R5 r5 => a φ5 H5 v (x1.trans (xx.trans x5)) R5 r5
  · have e : i = items.length := by omega
    subst e
    rw [List.drop_length] at h2
    cases h2
    exact .inl ⟨w2, a φ2 H2 σ2 (x1.trans x2) R2 E2⟩

/-! ### list comprehensions -/
def wipeE (env : VEnv) : List Nat → VEnv
  | [] => env
  | v :: vs => (wipeE env vs).set v none
theorem RE.wipe {K : Frg} {F φ : List Addr} {H : Hp} {env : VEnv} {σ : L2.St} (r : RE K F φ H env σ) : ∀ vs : List Nat, RE K F φ H (wipeE env vs) (wipe σ vs)
  | [] => r
  | v :: vs => by
    have ih := RE.wipe r vs
    unfold wipeE L2.wipe
    refine ⟨by rw [List.length_set, List.length_set]; exact ih.1, fun i d h => ?_⟩
    by_cases hi : v = i
    · subst hi
      by_cases hv : v < (wipeE env vs).length
      · rw [List.getElem?_set_self hv] at h
        cases h
      · rw [List.getElem?_eq_none (by rw [List.length_set]; omega)] at h
        cases h
    · rw [List.getElem?_set_ne hi] at h ⊢
      exact ih.2 i d h
theorem wipe_eq {σ σ' : L2.St} : ∀ (vs : List Nat), σ'.length = σ.length → (∀ i, i ∉ vs → σ'[i]? = σ[i]?) → L2.wipe σ' vs = L2.wipe σ vs := fun vs hl h => by
  apply List.ext_getElem?
  intro i
  by_cases hi : i ∈ vs
  · have at_ : ∀ (τ : L2.St) (us : List Nat), i ∈ us → (L2.wipe τ us)[i]? = if i < τ.length then some none else none := by
      intro τ us
      induction us with
      | nil => intro h; cases h
      | cons u us ih =>
        intro hm
        unfold L2.wipe
        by_cases hu : u = i
        · subst hu
          by_cases hz : u < τ.length
          · rw [List.getElem?_set_self (by rw [wipe_length]; exact hz), if_pos hz]
          · rw [if_neg hz, List.getElem?_eq_none (by rw [List.length_set, wipe_length]; omega)]
        · rw [List.getElem?_set_ne hu]
          exact ih ((List.mem_cons.mp hm).resolve_left fun z => hu z.symm)
    rw [at_ σ' vs hi, at_ σ vs hi, hl]
  · rw [wipe_out hi, wipe_out hi]
    exact h i hi
/-- the items of a comprehension: each in the slots as they were, its own names forgotten -/
def lcL (g : MG) (t : MT) (m : ME) (env : VEnv) : List Val → Store → Option (List Val × Store)
  | [], S => some ([], S)
  | x :: xs, S => bnd (g x env S) fun env1 S1 => bnd (t env1 S1) fun b S2 =>
    if b = true then bnd (m env1 S2) fun d S3 => bnd (lcL g t m env xs S3) fun ds S4 => some (d :: ds, S4) else lcL g t m env xs S2
def mLc (c : Bool) (vs : List Nat) (mi : MA) (g : MG) (t : MT) (m : ME) : ME := fun env S => bnd (mi env S) fun items S1 => bnd (lcL g t m (wipeE env vs) items S1) fun ds S2 => if ds.length ≤ sizeLine then some (mk c ds S2) else none
theorem im_lc {K : Frg} (c : Bool) {vs ws : List Nat} {ti : L2.TI} {mi : MA} {g : TG} {mg : MG} {t : TT} {mt : MT} {te : TE} {me : ME} (ii : ImI K ti mi) (ig : ImG K ws g mg) (it : ImT K t mt) (ie : Im K te me) (hw : ∀ i ∈ ws, i ∈ vs) :
    Im K (tLc ti g t te vs) (mLc c vs mi mg mt me) := fun F φ S H σ env d S' R E h Q a => by
  obtain ⟨items, S1, h1, h⟩ := bnd_some h
  obtain ⟨ds, S2, h2, h⟩ := bnd_some h
  split at h
  · rename_i hz
    have h' : mk c ds S2 = (d, S') := Option.some.inj h
    refine ii F φ S H σ env items S1 R E h1 _ fun φ1 H1 J x1 R1 Wk => ?_
    intro D hD
    have E1 := E.mono x1
    have hf : ∀ a ∈ D :: F, a ∈ F ∨ H1 a = none := fun a ha => by
      rcases List.mem_cons.mp ha with rfl | ha
      · exact .inr hD
      · exact .inl ha
    -- the list at D is nobody's
    refine ⟨fun i k H2 => ∃ φ2 S3 acc rest xs, Ext φ1 H1 φ2 H2 ∧ Rp K (D :: F) φ2 S3 H2 ∧ lcL mg mt me (wipeE env vs) (items.drop i) S3 = some (rest, S2) ∧ acc ++ rest = ds ∧ RVs K (D :: F) φ2 H2 acc xs ∧ H2 D = some (.lst xs) ∧ i ≤ items.length ∧ k = items.length - i,
      ⟨items.length, φ1, S1, [], ds, [], ?_, ?_, ?_, rfl, .nil, upd_same, Nat.zero_le _, by omega⟩, ?_⟩
    · exact Ext.new hD
    · have R2 := R1.new (o := .lst []) hD
      refine ⟨R2.len, R2.nd, fun i c q => ?_, fun b hb => ?_⟩
      · obtain ⟨b, q1, q2⟩ := R2.cells i c q
        refine ⟨b, q1, ?_⟩
        have hf2 : ∀ a ∈ D :: F, a ∈ F ∨ H1 a = none := hf
        obtain ⟨b0, z1, z2⟩ := R1.cells i c q
        rw [z1] at q1
        cases q1
        have mono : ∀ l xs, RVs K F φ1 H1 l xs → RVs K (D :: F) φ1 (upd H1 D (.lst [])) l xs := fun l xs r => RVs.mono (Ext.new hD) _ _ (RVs.more hf _ _ r)
        have nb : b ≠ D := by
          obtain ⟨u, z3⟩ := z2.there
          exact ne_of_none z3 hD
        cases c with
        | lst l =>
          obtain ⟨xs, z3, z4⟩ := z2
          exact ⟨xs, by rw [upd_ne nb]; exact z3, mono _ _ z4⟩
        | ins C ks vs =>
          obtain ⟨dx, gs, z3, z5, z4⟩ := z2
          exact ⟨dx, gs, by rw [upd_ne nb]; exact z3, z5, mono _ _ z4⟩
      · rcases List.mem_cons.mp hb with rfl | hb
        · exact ⟨R1.fresh hD, _, upd_same⟩
        · exact R2.forb b hb
    · rw [List.drop_zero]
      exact h2
    · rintro i k H2 ⟨φ2, S3, acc, rest, xs, x2, R2, q1, q2, q3, q4, hi, rfl⟩
      have lenX : xs.length = acc.length := q3.length
      obtain ⟨w1, w2, w3⟩ := Wk (D :: F) φ2 S3 H2 hf x2 R2
      have nD : D ∉ φ2 := (R2.forb D List.mem_cons_self).1
      by_cases hlt : i < items.length
      · have ed0 : items.drop i = items[i] :: items.drop (i + 1) := List.drop_eq_getElem_cons hlt
        refine .inr ⟨w1 i hlt, fun H3 => ∃ φ3 S4 acc3 rest3 xs3, Ext φ1 H1 φ3 H3 ∧ Rp K (D :: F) φ3 S4 H3 ∧ lcL mg mt me (wipeE env vs) (items.drop (i + 1)) S4 = some (rest3, S2) ∧ acc3 ++ rest3 = ds ∧ RVs K (D :: F) φ3 H3 acc3 xs3 ∧ H3 D = some (.lst xs3),
          fun H3 ⟨φ3, S4, acc3, rest3, xs3, z1, z2, z3, z4, z5, z6⟩ => ⟨items.length - (i + 1), by omega, φ3, S4, acc3, rest3, xs3, z1, z2, z3, z4, z5, z6, hlt, rfl⟩, fun x H3 y => ?_⟩
        obtain ⟨d0, hd, y1, y2, y3⟩ := w3 i x H3 hlt y
        rw [List.getElem?_eq_getElem hlt] at hd
        cases hd
        rw [ed0] at q1
        unfold lcL at q1
        obtain ⟨env4, S4, h4, q1⟩ := bnd_some (r := (rest, S2)) q1
        obtain ⟨b, S5, h5, q1⟩ := bnd_some (r := (rest, S2)) q1
        have E2 : RE K (D :: F) φ2 H3 (wipeE env vs) (L2.wipe σ vs) := ((E1.more hf).mono (x2.trans y1)).wipe vs
        refine ig (D :: F) φ2 S3 H3 (L2.wipe σ vs) (wipeE env vs) items[i] x env4 S4 y2 E2 y3 h4 _ fun φ4 H4 σ4 x4 R4 E4 k4 => ?_
        have xx4 := x2.trans (y1.trans x4)
        have xD4 := y1.trans x4
        have hwipe : L2.wipe σ4 vs = L2.wipe σ vs :=
          (wipe_eq vs k4.1 fun j hj => k4.2 j fun hm => hj (hw j hm)).trans (wipe_eq vs (wipe_length σ vs) fun j hj => wipe_out hj)
        refine ⟨hwipe, it (D :: F) φ4 S4 H4 σ4 env4 b S5 R4 E4 h5 _ fun φ5 H5 x5 R5 => ?_⟩
        cases b with
        | false =>
          rw [if_neg Bool.false_ne_true] at q1 ⊢
          exact ⟨φ5, S5, acc, rest, xs, xx4.trans x5, R5, q1, q2, RVs.mono (xD4.trans x5) _ _ q3, (xD4.trans x5).old _ _ q4 nD⟩
        | true =>
          rw [if_pos rfl] at q1 ⊢
          obtain ⟨d6, S6, h6, q1⟩ := bnd_some (r := (rest, S2)) q1
          obtain ⟨ds7, S7, h7, q1⟩ := bnd_some (r := (rest, S2)) q1
          cases q1
          refine ie (D :: F) φ5 S5 H5 σ4 env4 d6 S6 R5 (E4.mono x5) h6 _ fun φ6 H6 v6 x6 R6 r6 => ?_
          have xD6 := (xD4.trans x5).trans x6
          have g6 : H6 D = some (.lst xs) := xD6.old _ _ q4 nD
          have n6 : D ∉ φ6 := (R6.forb D List.mem_cons_self).1
          have r3 := RVs.mono xD6 _ _ q3
          refine ⟨xs, g6, ?_, φ6, S6, acc ++ [d6], ds7, xs ++ [v6], ?_, ?_, h7, by rw [List.append_assoc]; exact q2, ?_, upd_same⟩
          · rw [lenX]
            have : acc.length + (ds7.length + 1) = ds.length := by rw [← q2, List.length_append, List.length_cons]
            omega
          · have e6 := (xx4.trans x5).trans x6
            refine ⟨e6.pre, fun a o q n => ?_, fun a o q => ?_, fun a ys q => ?_, fun a o u q => ?_⟩
            · rw [upd_ne (ne_of_none q hD)]
              exact e6.old a o q n
            · obtain ⟨o', z⟩ := e6.there a o q
              exact ⟨o', by rw [upd_ne (ne_of_none q hD)]; exact z⟩
            · rw [upd_ne (ne_of_none q hD)]
              exact e6.tup a ys q
            · rw [upd_ne (ne_of_none q hD)]
              exact e6.frz a o u q
          · refine ⟨R6.len, R6.nd, fun j c q => ?_, fun b hb => ?_⟩
            · obtain ⟨b, z1, z2⟩ := R6.cells j c q
              have nb : b ≠ D := fun z => n6 (z ▸ List.mem_of_getElem? z1)
              refine ⟨b, z1, ?_⟩
              cases c with
              | lst l =>
                obtain ⟨ys, z3, z4⟩ := z2
                exact ⟨ys, by rw [upd_ne nb]; exact z3, RVs.upd List.mem_cons_self g6 _ _ z4⟩
              | ins C ks us =>
                obtain ⟨dx, gs, z3, z5, z4⟩ := z2
                exact ⟨dx, gs, by rw [upd_ne nb]; exact z3, z5, RVs.upd List.mem_cons_self g6 _ _ z4⟩
            · obtain ⟨z1, u, z2⟩ := R6.forb b hb
              by_cases hb2 : b = D
              · subst hb2
                exact ⟨z1, _, upd_same⟩
              · exact ⟨z1, u, by rw [upd_ne hb2]; exact z2⟩
          · exact RVs.upd List.mem_cons_self g6 _ _ (r3.append (.cons r6 .nil))
      · have e : i = items.length := by omega
        subst e
        rw [List.drop_length] at q1
        cases q1
        rw [List.append_nil] at q2
        subst q2
        refine .inl ⟨w2, ?_⟩
        have nF : D ∉ F := fun hm => by
          obtain ⟨_, o, q⟩ := R1.forb D hm
          rw [hD] at q
          cases q
        have back : ∀ l ys, RVs K (D :: F) φ2 H2 l ys → RVs K F (φ2 ++ []) H2 l ys := fun l ys r => RVs.adopt (D := D) (fun a ha => by cases ha) (fun a ha => List.mem_cons_of_mem _ ha) _ _ r
        have adopt : ∀ l ys, RVs K (D :: F) φ2 H2 l ys → RVs K F (φ2 ++ [D]) H2 l ys := fun l ys r => RVs.adopt (D := D) (fun a ha => by rw [List.mem_singleton.mp ha]; exact List.mem_cons_self) (fun a ha => List.mem_cons_of_mem _ ha) _ _ r
        cases c with
        | false =>
          cases h'
          refine a φ2 H2 _ (x1.trans x2) ⟨R2.len, R2.nd, fun j c q => ?_, fun b hb => R2.forb b (List.mem_cons_of_mem _ hb)⟩ ?_
          · obtain ⟨b, z1, z2⟩ := R2.cells j c q
            refine ⟨b, z1, ?_⟩
            cases c with
            | lst l =>
              obtain ⟨ys, z3, z4⟩ := z2
              exact ⟨ys, z3, by simpa using back _ _ z4⟩
            | ins C ks us =>
              obtain ⟨dx, gs, z3, z5, z4⟩ := z2
              exact ⟨dx, gs, z3, z5, by simpa using back _ _ z4⟩
          · unfold RV
            exact ⟨D, xs, rfl, nD, nF, q4, by simpa using back _ _ q3⟩
        | true =>
          cases h'
          refine a (φ2 ++ [D]) H2 _ (x1.trans ⟨?_, x2.old, x2.there, x2.tup, x2.frz⟩) ⟨by simp [R2.len], ?_, fun j c q => ?_, fun b hb => ?_⟩ ?_
          · obtain ⟨ψ, z1, z2⟩ := x2.pre
            exact ⟨ψ ++ [D], by rw [z1, List.append_assoc], fun b hb => by
              rcases List.mem_append.mp hb with hb | hb
              · exact z2 b hb
              · rw [List.mem_singleton.mp hb]
                exact hD⟩
          · rw [List.nodup_append]
            refine ⟨R2.nd, by simp, fun b hb b2 hb2 => ?_⟩
            rw [List.mem_singleton.mp hb2]
            exact fun z => nD (z ▸ hb)
          · by_cases hj : j < S2.length
            · rw [List.getElem?_append_left hj] at q
              obtain ⟨b, z1, z2⟩ := R2.cells j c q
              refine ⟨b, by rw [List.getElem?_append_left (List.getElem?_eq_some_iff.mp z1).1]; exact z1, ?_⟩
              cases c with
              | lst l =>
                obtain ⟨ys, z3, z4⟩ := z2
                exact ⟨ys, z3, adopt _ _ z4⟩
              | ins C ks us =>
                obtain ⟨dx, gs, z3, z5, z4⟩ := z2
                exact ⟨dx, gs, z3, z5, adopt _ _ z4⟩
            · have hl2 : j < (S2 ++ [Cell.lst acc]).length := (List.getElem?_eq_some_iff.mp q).1
              rw [List.length_append, List.length_singleton] at hl2
              have ej : j = S2.length := by omega
              subst ej
              rw [List.getElem?_append_right (Nat.le_refl _)] at q
              simp at q
              subst q
              refine ⟨D, ?_, xs, q4, adopt _ _ q3⟩
              rw [← R2.len, List.getElem?_append_right (Nat.le_refl _)]
              simp
          · obtain ⟨z1, u, z2⟩ := R2.forb b (List.mem_cons_of_mem _ hb)
            refine ⟨fun hm => ?_, u, z2⟩
            rcases List.mem_append.mp hm with hm | hm
            · exact z1 hm
            · rw [List.mem_singleton.mp hm] at hb
              exact nF hb
          · unfold RV
            refine ⟨D, rfl, ?_⟩
            rw [← R2.len, List.getElem?_append_right (Nat.le_refl _)]
            simp
  · cases h
end Fx
/-! Comprehensions as expressions; defs, calls; the law's end. -/
namespace Fx
open PySem PySem.Spec PyProof.Rows L2

/-! ### comprehensions in the text -/
section
variable {X : Cx}
theorem ei_lc (c : Bool) {elt tg iter : Expr} {ifs : List Expr} {scope : Scope} {own : List (Str × Nat)} {pos : Pos} {mi : MA} {ws : List Nat} {mg : MG} {mt : MT} {me : ME} (hc : X.calm = true) (hN : X.N.Nodup) (hi : II X tg iter mi) (ok : BlkOk X.N X.env.scope scope own)
    (hg : ∀ (s : Shared) (H : Hp) (C : Addr) (cl : List (Str × Addr)) (fp : List Addr), GI (X.blk s H scope (compEnvC scope cl C X.env) fp) ws tg mg)
    (ht : ∀ (s : Shared) (H : Hp) (C : Addr) (cl : List (Str × Addr)) (fp : List Addr), TsI (X.blk s H scope (compEnvC scope cl C X.env) fp) ifs mt)
    (he : ∀ (s : Shared) (H : Hp) (C : Addr) (cl : List (Str × Addr)) (fp : List Addr), EI (X.blk s H scope (compEnvC scope cl C X.env) fp) elt me) (hw : ∀ i ∈ ws, i ∈ own.map (·.2)) (hs : ∀ x, foldedSetIterable iter X.env x = pure x := by intro _; rfl) :
    EI X (.ListComp elt [⟨tg, iter, ifs, 0⟩] scope pos) (mLc c (own.map (·.2)) mi mg mt me) := by
  obtain ⟨ti, pi, ii⟩ := hi
  exact ⟨_, pe_lc hc hN pi ok (fun s H C cl fp => (hg s H C cl fp).can) (fun s H C cl fp => (ht s H C cl fp).can) (fun s H C cl fp => (he s H C cl fp).can) hs, im_lc c ii imG_can imT_can im_can hw⟩
theorem si_setLc (c : Bool) {i : Nat} {y : Str} {py : Pos} {elt tg iter : Expr} {ifs : List Expr} {scope : Scope} {own : List (Str × Nat)} {pos spos : Pos} {mi : MA} {ws : List Nat} {mg : MG} {mt : MT} {me : ME} (hc : X.calm = true) (hN : X.N.Nodup) (hy : X.N[i]? = some y) (hyl : X.env.scope.names.lookup y = some .local)
    (hsw : swapsWith (.ListComp elt [⟨tg, iter, ifs, 0⟩] scope pos) (some (.Name y py)) spos.line X.env = pure true) (hi : II X tg iter mi) (ok : BlkOk X.N X.env.scope scope own)
    (hg : ∀ (s : Shared) (H : Hp) (C : Addr) (cl : List (Str × Addr)) (fp : List Addr), GI (X.blk s H scope (compEnvC scope cl C X.env) fp) ws tg mg)
    (ht : ∀ (s : Shared) (H : Hp) (C : Addr) (cl : List (Str × Addr)) (fp : List Addr), TsI (X.blk s H scope (compEnvC scope cl C X.env) fp) ifs mt)
    (he : ∀ (s : Shared) (H : Hp) (C : Addr) (cl : List (Str × Addr)) (fp : List Addr), EI (X.blk s H scope (compEnvC scope cl C X.env) fp) elt me) (hw : ∀ i ∈ ws, i ∈ own.map (·.2)) (hs : ∀ x, foldedSetIterable iter X.env x = pure x := by intro _; rfl) :
    SI X (.Assign [.Name y py] (.ListComp elt [⟨tg, iter, ifs, 0⟩] scope pos) spos) (mSet (mLc c (own.map (·.2)) mi mg mt me) (gN i)) := by
  obtain ⟨ti, pi, ii⟩ := hi
  exact ⟨_, ps_setLc hc hN hy hyl hsw pi ok (fun s H C cl fp => (hg s H C cl fp).can) (fun s H C cl fp => (ht s H C cl fp).can) (fun s H C cl fp => (he s H C cl fp).can) hs, im_set (im_lc c ii imG_can imT_can im_can hw) im_gn⟩
/-! ### truth of any value -/
def truD (S : Store) : Val → Option Bool
  | .non => some false
  | .bl b => some b
  | .int i => some (i != 0)
  | .str z => if z.length ≤ sizeLine then some (z.length != 0) else none
  | .tup l => some (!l.isEmpty)
  | d => (lstOf S d).map fun l => !l.isEmpty
end

/-! ### what a def leaves behind -/
mutual
def refLt (n : Nat) : Val → Bool
  | .ref i => decide (i < n)
  | .tup l => refLtL n l
  | .fro l => refLtL n l
  | .scr l => refLtL n l
  | .obj _ _ vs => refLtL n vs
  | _ => true
def refLtL (n : Nat) : List Val → Bool
  | [] => true
  | d :: ds => refLt n d && refLtL n ds
end
def refLtC (n : Nat) : Cell → Bool
  | .lst l => refLtL n l
  | .ins _ _ vs => refLtL n vs
def Wf (S : Store) : Prop := ∀ (i : Nat) c, S[i]? = some c → refLtC S.length c = true
section
variable {K : Frg} {F φ : List Addr} {H : Hp}
mutual
theorem refLt_of : ∀ (d : Val) (v : V), RV K F φ H d v → refLt φ.length d = true
  | .non, v, h => by unfold refLt; rfl
  | .bl b, v, h => by unfold refLt; rfl
  | .int i, v, h => by unfold refLt; rfl
  | .str x, v, h => by unfold refLt; rfl
  | .raw w, v, h => by unfold refLt; rfl
  | .tup l, v, h => by
    unfold RV at h
    unfold refLt
    obtain ⟨a, xs, _, _, h3⟩ := h
    exact refLt_ofL l xs h3
  | .fro l, v, h => by
    unfold RV at h
    unfold refLt
    obtain ⟨a, xs, _, _, _, _, h3⟩ := h
    exact refLt_ofL l xs h3
  | .scr l, v, h => by
    unfold RV at h
    unfold refLt
    obtain ⟨a, xs, _, _, h3⟩ := h
    exact refLt_ofL l xs h3
  | .ref i, v, h => by
    unfold RV at h
    unfold refLt
    obtain ⟨a, _, h2⟩ := h
    exact decide_eq_true (List.getElem?_eq_some_iff.mp h2).1
  | .obj C ks vs, v, h => by
    unfold RV at h
    unfold refLt
    obtain ⟨a, dx, gs, _, _, _, _, _, h3⟩ := h
    exact refLt_ofL vs _ h3
theorem refLt_ofL : ∀ (ds : List Val) (vs : List V), RVs K F φ H ds vs → refLtL φ.length ds = true
  | [], vs, h => by unfold refLtL; rfl
  | d :: ds, vs, h => by
    obtain ⟨v, ws, _, h2, h3⟩ := h.inv
    unfold refLtL
    rw [refLt_of d v h2, refLt_ofL ds ws h3]
    rfl
end
theorem Rp.wf {S : Store} (R : Rp K F φ S H) : Wf S := fun i c q => by
  obtain ⟨a, _, h⟩ := R.cells i c q
  rw [← R.len]
  cases c with
  | lst l => obtain ⟨xs, _, h2⟩ := h; exact refLt_ofL _ _ h2
  | ins C ks vs => obtain ⟨dx, gs, _, _, h2⟩ := h; exact refLt_ofL _ _ h2
end
def mapO {α β : Type} (f : α → Option β) : List α → Option (List β)
  | [] => some []
  | x :: xs => (f x).bind fun y => (mapO f xs).map fun ys => y :: ys
/-- the cells from n on become values -/
def frz (S : Store) (n : Nat) : Nat → Val → Option Val
  | 0, _ => none
  | k + 1, d => if refLt n d = true then some d else match d with
    | .ref i => match S[i]? with
      | some (.lst l) => (mapO (frz S n k) l).map .fro
      | some (.ins C ks vs) => (mapO (frz S n k) vs).map fun ws => .obj C ks ws
      | none => none
    | .tup l => (mapO (frz S n k) l).map .tup
    | .fro l => (mapO (frz S n k) l).map .fro
    | .scr l => (mapO (frz S n k) l).map .scr
    | .obj C ks vs => (mapO (frz S n k) vs).map fun ws => .obj C ks ws
    | d => some d
def frzC (S : Store) (n k : Nat) : Cell → Option Cell
  | .lst l => (mapO (frz S n k) l).map .lst
  | .ins C ks vs => (mapO (frz S n k) vs).map fun ws => .ins C ks ws
/-- d0 with the store S0, given out as d with S': only n cells are left -/
def Fin (n k : Nat) (d0 : Val) (S0 : Store) (d : Val) (S' : Store) : Prop := n ≤ S0.length ∧ frz S0 n k d0 = some d ∧ mapO (frzC S0 n k) (S0.take n) = some S'
section
variable {K : Frg} {F φ : List Addr} {H : Hp} {S : Store} {n : Nat}
mutual
theorem RV.cut : ∀ (d : Val) (v : V), refLt n d = true → RV K F φ H d v → RV K F (φ.take n) H d v
  | .non, v, _, h => by unfold RV at h ⊢; exact h
  | .bl b, v, _, h => by unfold RV at h ⊢; exact h
  | .int i, v, _, h => by unfold RV at h ⊢; exact h
  | .str x, v, _, h => by unfold RV at h ⊢; exact h
  | .raw w, v, _, h => by unfold RV at h ⊢; exact h
  | .tup l, v, q, h => by
    unfold refLt at q
    unfold RV at h ⊢
    obtain ⟨a, xs, h1, h2, h3⟩ := h
    exact ⟨a, xs, h1, h2, RVs.cut l xs q h3⟩
  | .fro l, v, q, h => by
    unfold refLt at q
    unfold RV at h ⊢
    obtain ⟨a, xs, h1, h2, h4, h5, h3⟩ := h
    exact ⟨a, xs, h1, fun z => h2 (List.mem_of_mem_take z), h4, h5, RVs.cut l xs q h3⟩
  | .scr l, v, q, h => by
    unfold refLt at q
    unfold RV at h ⊢
    obtain ⟨a, xs, h1, h2, h3⟩ := h
    exact ⟨a, xs, h1, h2, RVs.cut l xs q h3⟩
  | .ref i, v, q, h => by
    unfold refLt at q
    unfold RV at h ⊢
    obtain ⟨a, h1, h2⟩ := h
    exact ⟨a, h1, by rw [List.getElem?_take_of_lt (of_decide_eq_true q)]; exact h2⟩
  | .obj C ks vs, v, q, h => by
    unfold refLt at q
    unfold RV at h ⊢
    obtain ⟨a, dx, gs, h1, h2, h4, h5, h6, h3⟩ := h
    exact ⟨a, dx, gs, h1, fun z => h2 (List.mem_of_mem_take z), h4, h5, h6, RVs.cut vs _ q h3⟩
theorem RVs.cut : ∀ (ds : List Val) (vs : List V), refLtL n ds = true → RVs K F φ H ds vs → RVs K F (φ.take n) H ds vs
  | [], vs, _, h => by unfold RVs at h ⊢; exact h
  | d :: ds, vs, q, h => by
    unfold refLtL at q
    rw [Bool.and_eq_true] at q
    unfold RVs at h ⊢
    obtain ⟨v, ws, h1, h2, h3⟩ := h
    exact ⟨v, ws, h1, RV.cut d v q.1 h2, RVs.cut ds ws q.2 h3⟩
end
theorem RVs.frz_of {f : Val → Option Val} (hf : ∀ d d' v, f d = some d' → RV K F φ H d v → RV K F (φ.take n) H d' v) : ∀ {ds ds' : List Val} {vs : List V}, mapO f ds = some ds' → RVs K F φ H ds vs → RVs K F (φ.take n) H ds' vs
  | [], ds', vs, e, r => by
    unfold mapO at e
    cases e
    rw [r.inv0]
    exact .nil
  | d :: ds, ds', vs, e, r => by
    unfold mapO at e
    obtain ⟨v, ws, h1, h2, h3⟩ := r.inv
    cases q : f d with
    | none => rw [q] at e; cases e
    | some y =>
      rw [q] at e
      simp only [Option.bind_some] at e
      cases q2 : mapO f ds with
      | none => rw [q2] at e; cases e
      | some ys =>
        rw [q2] at e
        cases e
        rw [h1]
        exact .cons (hf _ _ _ q h2) (RVs.frz_of hf q2 h3)
theorem RV.frz (R : Rp K F φ S H) : ∀ (k : Nat) (d d' : Val) (v : V), Fx.frz S n k d = some d' → RV K F φ H d v → RV K F (φ.take n) H d' v
  | 0, d, d', v, e, _ => by cases e
  | k + 1, d, d', v, e, r => by
    unfold Fx.frz at e
    split at e
    · rename_i q
      cases e
      exact RV.cut d v q r
    · rename_i q
      have ih : ∀ d d' v, Fx.frz S n k d = some d' → RV K F φ H d v → RV K F (φ.take n) H d' v := RV.frz R k
      have rest : ∀ {l : List Val} {g : List Val → Val}, (mapO (Fx.frz S n k) l).map g = some d' → ∃ l', mapO (Fx.frz S n k) l = some l' ∧ d' = g l' := fun {l g} e => by
        cases q : mapO (Fx.frz S n k) l with
        | none => rw [q] at e; cases e
        | some l' =>
          rw [q] at e
          cases e
          exact ⟨l', rfl, rfl⟩
      split at e
      · rename_i i
        have hi : ¬ i < n := fun z => q (by unfold refLt; exact decide_eq_true z)
        unfold RV at r
        obtain ⟨a, h1, h2⟩ := r
        have na : a ∉ φ.take n := fun hm => by
          obtain ⟨j, hj, ej⟩ := List.getElem_of_mem hm
          have hj2 : j < n := by rw [List.length_take] at hj; omega
          rw [List.getElem_take] at ej
          have : φ[j]? = some a := by rw [List.getElem?_eq_getElem (by rw [List.length_take] at hj; omega), ej]
          have := R.inj this h2
          omega
        have nF : a ∉ F := fun hm => (R.forb a hm).1 (List.mem_of_getElem? h2)
        split at e
        · rename_i l hl
          obtain ⟨l', e1, rfl⟩ := rest e
          obtain ⟨xs, g1, g2⟩ := R.lst h2 hl
          unfold RV
          exact ⟨a, xs, h1, na, nF, g1, RVs.frz_of ih e1 g2⟩
        · rename_i C ks vs hl
          obtain ⟨l', e1, rfl⟩ := rest e
          obtain ⟨b, e2, dx, gs, g1, g2, g3⟩ := R.cells i _ hl
          rw [h2] at e2
          cases e2
          unfold RV
          exact ⟨a, dx, gs, h1, na, nF, g1, g2, RVs.frz_of ih e1 g3⟩
        · cases e
      · rename_i l
        obtain ⟨l', e1, rfl⟩ := rest e
        unfold RV at r ⊢
        obtain ⟨a, xs, h1, h2, h3⟩ := r
        exact ⟨a, xs, h1, h2, RVs.frz_of ih e1 h3⟩
      · rename_i l
        obtain ⟨l', e1, rfl⟩ := rest e
        unfold RV at r ⊢
        obtain ⟨a, xs, h1, h2, h4, h5, h3⟩ := r
        exact ⟨a, xs, h1, fun z => h2 (List.mem_of_mem_take z), h4, h5, RVs.frz_of ih e1 h3⟩
      · rename_i l
        obtain ⟨l', e1, rfl⟩ := rest e
        unfold RV at r ⊢
        obtain ⟨a, xs, h1, h2, h3⟩ := r
        exact ⟨a, xs, h1, h2, RVs.frz_of ih e1 h3⟩
      · rename_i C ks vs
        obtain ⟨l', e1, rfl⟩ := rest e
        unfold RV at r ⊢
        obtain ⟨a, dx, gs, h1, h2, h4, h5, h6, h3⟩ := r
        exact ⟨a, dx, gs, h1, fun z => h2 (List.mem_of_mem_take z), h4, h5, h6, RVs.frz_of ih e1 h3⟩
      · cases e
        rename_i n1 n2 n3 n4 n5
        cases d with
        | ref i => exact (n1 i rfl).elim
        | tup l => exact (n2 l rfl).elim
        | fro l => exact (n3 l rfl).elim
        | scr l => exact (n4 l rfl).elim
        | obj C ks vs => exact (n5 C ks vs rfl).elim
        | non => unfold RV at r ⊢; exact r
        | bl _ => unfold RV at r ⊢; exact r
        | int _ => unfold RV at r ⊢; exact r
        | str _ => unfold RV at r ⊢; exact r
        | raw _ => unfold RV at r ⊢; exact r
theorem mapO_get {α β : Type} {f : α → Option β} : ∀ {l : List α} {l' : List β} {i : Nat} {y : β}, mapO f l = some l' → l'[i]? = some y → ∃ x, l[i]? = some x ∧ f x = some y
  | [], l', i, y, e, h => by
    unfold mapO at e
    cases e
    simp at h
  | x :: l, l', i, y, e, h => by
    unfold mapO at e
    cases q : f x with
    | none => rw [q] at e; cases e
    | some z =>
      rw [q] at e
      simp only [Option.bind_some] at e
      cases q2 : mapO f l with
      | none => rw [q2] at e; cases e
      | some zs =>
        rw [q2] at e
        cases e
        cases i with
        | zero =>
          simp at h
          subst h
          exact ⟨x, rfl, q⟩
        | succ i =>
          obtain ⟨w, h1, h2⟩ := mapO_get q2 (by simpa using h)
          exact ⟨w, by simpa using h1, h2⟩
theorem mapO_len {α β : Type} {f : α → Option β} : ∀ {l : List α} {l' : List β}, mapO f l = some l' → l'.length = l.length
  | [], l', e => by
    unfold mapO at e
    cases e
    rfl
  | x :: l, l', e => by
    unfold mapO at e
    cases q : f x with
    | none => rw [q] at e; cases e
    | some z =>
      rw [q] at e
      simp only [Option.bind_some] at e
      cases q2 : mapO f l with
      | none => rw [q2] at e; cases e
      | some zs =>
        rw [q2] at e
        cases e
        rw [List.length_cons, List.length_cons, mapO_len q2]
theorem Rp.fin (R : Rp K F φ S H) {k : Nat} {S' : Store} (hn : n ≤ S.length) (e : mapO (frzC S n k) (S.take n) = some S') : Rp K F (φ.take n) S' H := by
  have hl := mapO_len e
  rw [List.length_take] at hl
  refine ⟨by rw [List.length_take, R.len, hl], R.nd.sublist (List.take_sublist _ _), fun i c q => ?_, fun a ha => ⟨fun z => (R.forb a ha).1 (List.mem_of_mem_take z), (R.forb a ha).2⟩⟩
  obtain ⟨c0, h1, h2⟩ := mapO_get e q
  have hi : i < n := by
    have := (List.getElem?_eq_some_iff.mp q).1
    omega
  rw [List.getElem?_take_of_lt hi] at h1
  obtain ⟨a, g1, g2⟩ := R.cells i c0 h1
  refine ⟨a, by rw [List.getElem?_take_of_lt hi]; exact g1, ?_⟩
  cases c0 with
  | lst l =>
    have h2 : (mapO (frz S n k) l).map Cell.lst = some c := h2
    cases q2 : mapO (frz S n k) l with
    | none => rw [q2] at h2; cases h2
    | some l' =>
      rw [q2] at h2
      cases h2
      obtain ⟨xs, k1, k2⟩ := g2
      exact ⟨xs, k1, RVs.frz_of (RV.frz R k) q2 k2⟩
  | ins C ks vs =>
    have h2 : (mapO (frz S n k) vs).map (fun ws => Cell.ins C ks ws) = some c := h2
    cases q2 : mapO (frz S n k) vs with
    | none => rw [q2] at h2; cases h2
    | some l' =>
      rw [q2] at h2
      cases h2
      obtain ⟨dx, gs, k1, k3, k2⟩ := g2
      exact ⟨dx, gs, k1, k3, RVs.frz_of (RV.frz R k) q2 k2⟩
theorem Ext.fin {φ' : List Addr} {H' : Hp} (e : Ext φ H φ' H') (hn : φ.length ≤ n) : Ext φ H (φ'.take n) H' := by
  obtain ⟨ψ, e1, e2⟩ := e.pre
  refine ⟨⟨ψ.take (n - φ.length), ?_, fun a ha => e2 a (List.mem_of_mem_take ha)⟩, e.old, e.there, e.tup, e.frz⟩
  rw [e1, List.take_append, List.take_of_length_le hn]
/-- nothing new is handed out -/
theorem refLtL_all {n : Nat} : ∀ {l : List Val}, refLtL n l = true → ∀ d ∈ l, refLt n d = true
  | [], _, d, hd => by cases hd
  | x :: l, h, d, hd => by
    unfold refLtL at h
    rw [Bool.and_eq_true] at h
    rcases List.mem_cons.mp hd with rfl | hd
    · exact h.1
    · exact refLtL_all h.2 d hd
theorem mapO_id {α : Type} {f : α → Option α} : ∀ {l : List α}, (∀ d ∈ l, f d = some d) → mapO f l = some l
  | [], _ => rfl
  | x :: l, h => by
    unfold mapO
    rw [h x List.mem_cons_self, mapO_id fun d hd => h d (List.mem_cons_of_mem _ hd)]
    rfl
theorem frz_id {S0 : Store} {k : Nat} {d : Val} (h : refLt n d = true) : frz S0 n (k + 1) d = some d := by
  unfold frz
  rw [if_pos h]
theorem frzC_id {S0 : Store} {k : Nat} {c : Cell} (h : refLtC n c = true) : frzC S0 n (k + 1) c = some c := by
  cases c with
  | lst l =>
    show (mapO (frz S0 n (k + 1)) l).map Cell.lst = _
    rw [mapO_id (f := frz S0 n (k + 1)) fun d hd => frz_id (refLtL_all h d hd)]
    rfl
  | ins C ks vs =>
    show (mapO (frz S0 n (k + 1)) vs).map (fun ws => Cell.ins C ks ws) = _
    rw [mapO_id (f := frz S0 n (k + 1)) fun d hd => frz_id (refLtL_all h d hd)]
    rfl
/-- the store is given back as it is, what was laid behind it forgotten -/
theorem Fin.pure {S1 J : Store} {k : Nat} {d0 d : Val} (w : Wf S1) (h : frz (S1 ++ J) S1.length (k + 1) d0 = some d) : Fin S1.length (k + 1) d0 (S1 ++ J) d S1 := by
  refine ⟨by simp, h, ?_⟩
  rw [List.take_left]
  refine mapO_id fun c hc => ?_
  obtain ⟨i, hi, e⟩ := List.getElem_of_mem hc
  exact frzC_id (w i c (by rw [List.getElem?_eq_getElem hi, e]))
end

/-! ### a def's promise, where nothing is being shown -/
structure FnG (P : Program) (w : World) (K : Frg) (mg : Str → Option Value) (base : Heap) (k : Nat) (f : Addr) (fd : FuncData) (ps : List Str) (sp : Sp) : Prop where
  len : ∀ vs H Q E, sp vs H Q E → vs.length = ps.length
  run : ∀ (A : Around) (outer : List Env) (s : Shared) (H : Hp) (args : Args) (us : List Value) (vs : List V) (Q : VK) (E : XK), Room k A → A.guards = some [] → Env0 P w K mg base A outer s H →
    BindsTo s fd args (ps.zip us) → Vals vs us → sp vs H Q E → codeAny (model P w) A (.call (.ref f) args) (CR CX0 outer P w H s Q E) s
theorem FnG.mono {P : Program} {w : World} {K : Frg} {mg : Str → Option Value} {base : Heap} {j k : Nat} {f : Addr} {fd : FuncData} {ps : List Str} {sp : Sp} (G : FnG P w K mg base j f fd ps sp) (h : j ≤ k) : FnG P w K mg base k f fd ps sp :=
  ⟨G.len, fun A outer s H args us vs Q E hr => G.run A outer s H args us vs Q E (hr.mono h)⟩
abbrev cx0 (P : Program) (w : World) (K : Frg) (mg : Str → Option Value) (base : Heap) (N : List Str) (qual : Str) (sc : Scope) (f : Addr) (cdv : Value) (A : Around) (outer : List Env) (s : Shared) (H : Hp) (E : XK) : Cx :=
  (cxOf CX0 P w K mg base N qual sc f cdv A outer s H E).nox
theorem fng_of {P : Program} {w : World} {K : Frg} {mg : Str → Option Value} {base : Heap} {x qual : Str} {st : Stmt} {f : Addr} {fd : FuncData} {N ps : List Str} {k : Nat} {sp : Sp} (Fu : Fun K x qual st f fd) (Sc : FnScope N ps (defScope st))
    (len : ∀ vs H Q E, sp vs H Q E → vs.length = ps.length)
    (hbody : ∀ (cdv : Value) (A : Around) (outer : List Env) (s : Shared) (H : Hp) (vs : List V) (Q : VK) (E : XK), Room k (A.deeper (envOfC qual (defScope st) s.heap.objs.size f cdv)) → A.guards = some [] → sp vs H Q E →
      ∃ t, PSs (cx0 P w K mg base N qual (defScope st) f cdv A outer s H E) (defBody st) t ∧ t { nx := fun _ H' => Q .non H', rt := Q } (L2.start N vs) H) : FnG P w K mg base (k + 1) f fd ps sp := by
  obtain ⟨oc, od, kV, doc, pm, an, cdv, ct, osl, rfl, lk, hcd⟩ := Fu.ex
  refine ⟨len, fun A outer s H args us vs Q E hr hgd en hb rel hsp => ?_⟩
  have nlen := len vs H Q E hsp
  have kin : K.In s.heap := en.mod.kin.keeps fun b o e => (en.bs b o e).1
  have nol : s.heap.NoLimit := en.mod.nolimit.keeps fun b o e => (en.bs b o e).1
  refine codeAny_call_function hr.depth (kin f _ lk) rfl Sc.co Sc.gen rfl (PySem.W.codeRec_of kin hcd) (hb _ _ _ _ ?_)
  refine wpAny_newFunctionEnv_cells Sc.kind (fun y hy => ?_) fun env he s1 inC => ?_
  · have hm : y.1 ∈ ps := (List.of_mem_zip (a := y.1) (b := y.2) hy).1
    rcases Sc.par y.1 hm with z | z
    · exact Or.inl z
    · exact Or.inr ⟨z, PySem.W.cellsFrom_some _ _ _ (Or.inl z)⟩
  · subst he
    refine ⟨nol.keeps inC.toInCall.keep, codeAny_func ?_⟩
    obtain ⟨t, pt, qt⟩ := hbody cdv A outer s H vs Q E (hr.deeper _) hgd hsp
    have inv := inv_start (CX := CX0) (P := P) (w := w) (K := K) (mg := mg) (base := base) (E := E) (qual := qual) (f := f) (cd := cdv) Sc hr.hd en nlen rel inC
    have done : ∀ {s' : Shared} {τ : L2.St} {H' : Hp} {v : V} {u : Value}, Inv (cxOf CX0 P w K mg base N qual (defScope st) f cdv A outer s H E) [] τ H' s' → RelV v u → Q v H' → CE outer P w H s Q u s' :=
      fun J r q => ⟨_, _, J.os, J.bare, J.base, J.hok, r, q⟩
    refine wpAny_mono (pt.nox.run [] s1 (L2.start N vs) H _ inv qt) (fun fl s' hs => ?_) fun e s' hs => hs
    cases fl with
    | brk => obtain ⟨_, _, _, q⟩ := hs; exact q.elim
    | cont => obtain ⟨_, _, _, q⟩ := hs; exact q.elim
    | next =>
      obtain ⟨τ, H', J, q⟩ := hs
      exact done (v := V.non) (u := Value.none) J rfl q
    | ret u =>
      obtain ⟨v, τ, H', J, r, q⟩ := hs
      exact done J r q

/-- a def as a function of values and the store -/
def spM (K : Frg) (n : Nat) (M : MCall) : Sp := fun vs H Q _ => vs.length = n ∧ ∃ F φ S ds d S', Rp K F φ S H ∧ RVs K F φ H ds vs ∧ M ds S = some (d, S') ∧ Aft K F φ H S' d Q
def startE (N : List Str) (ds : List Val) : VEnv := ds.map some ++ List.replicate (N.length - ds.length) none
def runB (N : List Str) (m : MS) (ds : List Val) (S : Store) : Option (Val × Store) := bnd (m (startE N ds) S) fun o S1 => match o with
  | .rt d => some (d, S1)
  | .nx _ => some (.non, S1)
  | _ => none
theorem re_start {K : Frg} {F φ : List Addr} {H : Hp} {N : List Str} {ds : List Val} {vs : List V} (r : RVs K F φ H ds vs) : RE K F φ H (startE N ds) (L2.start N vs) := by
  have hl := r.length
  unfold startE L2.start
  refine ⟨by simp [hl], fun i d h => ?_⟩
  by_cases hi : i < ds.length
  · rw [List.getElem?_append_left (by simpa using hi), List.getElem?_map] at h
    cases q : ds[i]? with
    | none => rw [q] at h; cases h
    | some e =>
      rw [q] at h
      cases h
      obtain ⟨v, h1, h2⟩ := r.get q
      exact ⟨v, by rw [List.getElem?_append_left (by simp; omega), List.getElem?_map, h1]; rfl, h2⟩
  · rw [List.getElem?_append_right (by simpa using hi), List.getElem?_replicate] at h
    split at h <;> cases h
/-- the promise of a def, from its body's meaning m and the function M that says what it does -/
theorem fi_mk {P : Program} {w : World} {K : Frg} {mg : Str → Option Value} {base : Heap} {x qual : Str} {st : Stmt} {f : Addr} {fd : FuncData} {N ps : List Str} {k : Nat} {M : MCall} {m : MS} (Fu : Fun K x qual st f fd) (Sc : FnScope N ps (defScope st))
    (hbody : ∀ (cdv : Value) (A : Around) (outer : List Env) (s : Shared) (H : Hp) (E : XK), Room k (A.deeper (envOfC qual (defScope st) s.heap.objs.size f cdv)) → A.guards = some [] →
      BI (cx0 P w K mg base N qual (defScope st) f cdv A outer s H E) (defBody st) m)
    (href : ∀ ds S d S', ds.length = ps.length → Wf S → refLtL S.length ds = true → M ds S = some (d, S') → ∃ n k d0 S0, S.length ≤ n ∧ runB N m ds S = some (d0, S0) ∧ Fin n k d0 S0 d S') :
    FnG P w K mg base (k + 1) f fd ps (spM K ps.length M) := by
  refine fng_of Fu Sc (fun vs H Q E h => h.1) fun cdv A outer s H vs Q E hr hgd h => ?_
  obtain ⟨hl, F, φ, S, ds, d, S', R, r, hM, a⟩ := h
  obtain ⟨t, p, i⟩ := hbody cdv A outer s H E hr hgd
  refine ⟨t, p, ?_⟩
  obtain ⟨n, k', d0, S0, hn, hrun, hf⟩ := href ds S d S' (by rw [← r.length]; exact hl) R.wf (by rw [← R.len]; exact refLt_ofL _ _ r) hM
  unfold runB at hrun
  obtain ⟨o, S1, h1, h2⟩ := bnd_some hrun
  have back : ∀ (d1 : Val), some (d1, S1) = some (d0, S0) → Aft K F φ H S1 d1 Q := fun d1 e φ1 H1 v x1 R1 r1 => by
    cases e
    have hn' : φ.length ≤ n := by rw [R.len]; exact hn
    exact a (φ1.take n) H1 v (x1.fin hn') (R1.fin hf.1 hf.2.2) (RV.frz R1 k' _ _ _ hf.2.1 r1)
  refine i F φ S H (L2.start N vs) (startE N ds) o S1 R (re_start r) h1 _ ?_
  cases o with
  | rt d1 => exact back d1 h2
  | nx e => exact fun φ1 H1 σ1 x1 R1 _ => back .non h2 φ1 H1 .non x1 R1 rv_non
  | bk e => cases h2
  | ct e => cases h2

/-! ### calls of defs -/
section
variable {X : Cx} {j k : Nat} {f : Addr} {fd : FuncData} {ps : List Str} {x : Str} {p pos : Pos} {e : Expr} {es : List Expr} {ms : MA} {n : Nat} {M : MCall}
def tGo (K : Frg) (n : Nat) (M : MCall) (t : TA) : TE := fun σ H Q => t σ H fun vs H1 => spM K n M vs H1 Q (fun _ _ _ => False)
theorem im_go {K : Frg} {t : TA} (it : ImA K t ms) (hn : ∀ env S ds S1, ms env S = some (ds, S1) → ds.length = n) : Im K (tGo K n M t) (mCall M ms) := fun F φ S H σ env d S' R E h Q a => by
  obtain ⟨ds, S1, h1, h⟩ := bnd_some h
  refine it F φ S H σ env ds S1 R E h1 _ fun φ1 H1 vs e1 R1 r1 => ?_
  exact ⟨by rw [r1.length]; exact hn _ _ _ _ h1, F, φ1, S1, ds, d, S', R1, r1, h, a.mono e1⟩
theorem run_go {pins : List (Addr × Obj)} {σ : L2.St} {H : Hp} {s : Shared} {Q : VK} {args : Args} {us : List Value} {vs : List V} {sp : Sp} {E : XK} (G : FnG X.prog X.w X.K X.mg X.base j f fd ps sp) (hr : Room j X.A) (hgd : X.A.guards = some [])
    (I : Inv X pins σ H s) (hb : BindsTo s fd args (ps.zip us)) (r : Vals vs us) (h : sp vs H Q E) : wpAny (model X.prog X.w) X.A (call (.ref f) args.pos args.kw) (EP X pins σ Q) X.xe s := by
  refine wpAny_call (codeAny_mono (G.run X.A X.stack s H args us vs Q E hr hgd I.env0 hb r h) fun res s' hq => ?_)
  cases res with
  | error _ => exact (show False from hq).elim
  | ok fl =>
    cases fl with
    | ret u => exact I.after hq
    | next => exact (show False from hq).elim
    | brk => exact (show False from hq).elim
    | cont => exact (show False from hq).elim
theorem ei_go (G : FnG X.prog X.w X.K X.mg X.base j f fd ps (spM X.K n M)) (hr : Room k X.A) (hj : j ≤ k) (hgd : X.A.guards = some []) (hg : Gl X x) (hm : X.mg x = some (.ref f)) (hk : PySem.W.keepIn X.K (.ref f) = true) (hb : Binds X.K fd ps [])
    (ha : AI X (e :: es) ms) (hn : ∀ env S ds S1, ms env S = some (ds, S1) → ds.length = n) (hdb : (x == ("__debug__" : Str)) = false := by decide) (he : starEach (e :: es) X.env = (false, eval e X.env) :: starEach es X.env := by rfl)
    (hpl : (backTo pos (starEach es X.env)).any (·.1) = false := by rfl) : EI X (.Call (.Name x p) (e :: es) [] pos) (mCall M ms) := by
  obtain ⟨t, pa, ia⟩ := ha
  refine ⟨tGo X.K n M t, ⟨fun pins s σ H Q I h => ?_⟩, im_go ia hn⟩
  refine wpAny_Call_Name_kw (ld_glob I hg hm ?_ hdb)
  refine PySem.W.callWith_K (h₀ := X.base) I.ok.mod.kin hk (thn (pa.run pos pins s σ H _ I h) fun us s1 h1 => ?_) he hpl
  obtain ⟨vs, H1, I1, r, q⟩ := h1
  have hl := G.len _ _ _ _ q
  refine ⟨I1.kIn, run_go (args := ⟨us, []⟩) (us := us) (E := fun _ _ _ => False) G (hr.mono hj) hgd I1 ?_ r q⟩
  have := hb s1 us I1.kIn (by rw [List.append_nil, ← r.length]; exact hl)
  rw [List.append_nil] at this
  exact this
theorem ei_go0 (G : FnG X.prog X.w X.K X.mg X.base j f fd [] (spM X.K 0 M)) (hr : Room k X.A) (hj : j ≤ k) (hgd : X.A.guards = some []) (hg : Gl X x) (hm : X.mg x = some (.ref f)) (hk : PySem.W.keepIn X.K (.ref f) = true) (hb : Binds X.K fd [] [])
    (hdb : (x == ("__debug__" : Str)) = false := by decide) : EI X (.Call (.Name x p) [] [] pos) (mCall M mNil) := by
  refine ⟨tGo X.K 0 M tNil, ⟨fun pins s σ H Q I h => ?_⟩, im_go (ms := mNil) (n := 0) (fun F φ S H σ env ds S' R E h Q a => by cases h; exact a φ H [] Ext.refl R .nil) fun _ _ _ _ h => by cases h; rfl⟩
  refine wpAny_Call_Name_kw (ld_glob I hg hm ?_ hdb)
  refine PySem.W.callWith_K0 I.kIn hk (run_go (args := ⟨[], []⟩) (us := []) (E := fun _ _ _ => False) G (hr.mono hj) hgd I ?_ .nil h)
  have := hb s [] I.kIn rfl
  simpa using this
/-- calls with keywords: which of the values written, one after another, come to the parameters -/
def pick {α : Type} (ix : List Nat) (l : List α) : List α := ix.filterMap (l[·]?)
theorem vals_pick {vs : List V} {us : List Value} (r : Vals vs us) : ∀ ix : List Nat, Vals (Fx.pick ix vs) (Fx.pick ix us)
  | [] => .nil
  | i :: ix => by
    have ih := vals_pick r ix
    unfold Fx.pick at ih ⊢
    rw [List.filterMap_cons, List.filterMap_cons]
    cases q : vs[i]? with
    | none =>
      rw [r.none_of q]
      exact ih
    | some v =>
      obtain ⟨u, h1, h2⟩ := r.get q
      rw [h1]
      exact .cons h2 ih
theorem RVs.pick {K : Frg} {F φ : List Addr} {H : Hp} {ds : List Val} {vs : List V} (r : RVs K F φ H ds vs) : ∀ ix : List Nat, RVs K F φ H (Fx.pick ix ds) (Fx.pick ix vs)
  | [] => .nil
  | i :: ix => by
    have ih := RVs.pick r ix
    unfold Fx.pick at ih ⊢
    rw [List.filterMap_cons, List.filterMap_cons]
    cases q : ds[i]? with
    | none =>
      have : vs[i]? = none := List.getElem?_eq_none_iff.mpr (by rw [r.length]; exact List.getElem?_eq_none_iff.mp q)
      rw [this]
      exact ih
    | some d =>
      obtain ⟨u, h1, h2⟩ := r.get q
      rw [h1]
      exact .cons h2 ih
def KB (K : Frg) (fd : FuncData) (ps : List Str) (n : Nat) (ks : List Str) (ix : List Nat) : Prop := ∀ (s : Shared) (us ws : List Value), K.In s.heap → us.length = n → ws.length = ks.length → BindsTo s fd ⟨us, ks.zip ws⟩ (ps.zip (pick ix (us ++ ws)))
def mKw (ix : List Nat) (ms mk : MA) : MA := fun env S => bnd (ms env S) fun ds S1 => bnd (mk env S1) fun es S2 => some (pick ix (ds ++ es), S2)
def KI (X : Cx) (kws : List Keyword) (m : MA) : Prop := ∃ t, PK X kws t ∧ ImA X.K t m
theorem ki_nil : KI X [] mNil := ⟨_, pk_nil, fun F φ S H σ env ds S' R E h Q a => by
  cases h
  exact a φ H [] Ext.refl R RVs.nil⟩
theorem im_cons {K : Frg} {t : TE} {u : TA} {m : ME} {ms : MA} (i : Im K t m) (j : ImA K u ms) : ImA K (tCons t u) (mCons m ms) := fun F φ S H σ env ds S' R E h Q a => by
  obtain ⟨d, S1, h1, h⟩ := bnd_some h
  obtain ⟨ds', S2, h2, h⟩ := bnd_some h
  cases h
  refine i F φ S H σ env d S1 R E h1 _ fun φ1 H1 v e1 R1 r1 => ?_
  refine j F φ1 S1 H1 σ env ds' S' R1 (E.mono e1) h2 _ fun φ2 H2 vs e2 R2 r2 => ?_
  exact a φ2 H2 _ (e1.trans e2) R2 (.cons (RV.mono e2 _ _ r1) r2)
theorem ki_cons {nm : Option Str} {kpos : Pos} {kws : List Keyword} {m : ME} (h : EI X e m) (g : KI X kws ms) : KI X (⟨nm, e, kpos⟩ :: kws) (mCons m ms) := by
  obtain ⟨t, p, i⟩ := h
  obtain ⟨u, q, j⟩ := g
  exact ⟨_, pk_cons p q, im_cons i j⟩
def tGoK (K : Frg) (n l : Nat) (ix : List Nat) (M : MCall) (a b : Nat) (t tk : TA) : TE := fun σ H Q => t σ H fun vs H1 => tk σ H1 fun zs H2 => vs.length = a ∧ zs.length = b ∧ spM K n M (pick ix (vs ++ zs)) H2 Q (fun _ _ _ => False)
theorem im_goK {K : Frg} {a b l : Nat} {ix : List Nat} {t tk : TA} {mk : MA} (it : ImA K t ms) (ik : ImA K tk mk) (ha : ∀ env S ds S1, ms env S = some (ds, S1) → ds.length = a) (hb : ∀ env S ds S1, mk env S = some (ds, S1) → ds.length = b)
    (hn : ∀ env S ds S1, mKw ix ms mk env S = some (ds, S1) → ds.length = n) : Im K (tGoK K n l ix M a b t tk) (mCall M (mKw ix ms mk)) := fun F φ S H σ env d S' R E h Q q => by
  obtain ⟨ds, S1, h1, h⟩ := bnd_some h
  have hl := hn _ _ _ _ h1
  obtain ⟨d1, S2, h2, h1⟩ := bnd_some h1
  obtain ⟨d2, S3, h3, h1⟩ := bnd_some h1
  cases h1
  refine it F φ S H σ env d1 S2 R E h2 _ fun φ1 H1 vs e1 R1 r1 => ?_
  refine ik F φ1 S2 H1 σ env d2 S1 R1 (E.mono e1) h3 _ fun φ2 H2 zs e2 R2 r2 => ?_
  have r3 := ((RVs.mono e2 _ _ r1).append r2).pick ix
  exact ⟨by rw [r1.length]; exact ha _ _ _ _ h2, by rw [r2.length]; exact hb _ _ _ _ h3, by rw [r3.length]; exact hl, F, φ2, S1, _, d, S', R2, r3, h, q.mono (e1.trans e2)⟩
theorem ei_goK {ks : List Str} {ix : List Nat} {kws : List Keyword} {a : Nat} {mk : MA} (G : FnG X.prog X.w X.K X.mg X.base j f fd ps (spM X.K n M)) (hr : Room k X.A) (hj : j ≤ k) (hgd : X.A.guards = some []) (hg : Gl X x) (hm : X.mg x = some (.ref f)) (hk : PySem.W.keepIn X.K (.ref f) = true) (hb : KB X.K fd ps a ks ix)
    (ha : AI X (e :: es) ms) (hkw : KI X kws mk) (la : ∀ env S ds S1, ms env S = some (ds, S1) → ds.length = a) (lk : ∀ env S ds S1, mk env S = some (ds, S1) → ds.length = ks.length) (hn : ∀ env S ds S1, mKw ix ms mk env S = some (ds, S1) → ds.length = n)
    (hall : (backToKw pos (keywordEach kws X.env)).all (·.1.isSome) = true := by rfl) (hks : (backToKw pos (keywordEach kws X.env)).filterMap (·.1) = ks := by rfl)
    (hdb : (x == ("__debug__" : Str)) = false := by decide) (he : starEach (e :: es) X.env = (false, eval e X.env) :: starEach es X.env := by rfl)
    (hpl : ((backTo pos (starEach (e :: es) X.env)).any (·.1) || (backToKw pos (keywordEach kws X.env)).any (·.1.isNone)) = false := by rfl) : EI X (.Call (.Name x p) (e :: es) kws pos) (mCall M (mKw ix ms mk)) := by
  obtain ⟨t, pa, ia⟩ := ha
  obtain ⟨u, pk, ik⟩ := hkw
  refine ⟨tGoK X.K n 0 ix M a ks.length t u, ⟨fun pins s σ H Q I h => ?_⟩, im_goK ia ik la lk hn⟩
  refine wpAny_Call_Name_kw (ld_glob I hg hm ?_ hdb)
  refine PySem.W.callWith_KW (h₀ := X.base) I.ok.mod.kin hk hall (thn (pa.run pos pins s σ H _ I h) fun us s1 h1 => ?_) hpl he
  obtain ⟨vs, H1, I1, r, q⟩ := h1
  refine thn (pk.run pos pins s1 σ H1 _ I1 q) fun ws s2 h2 => ?_
  obtain ⟨zs, H2, I2, rz, l1, l2, q2⟩ := h2
  rw [hks]
  exact ⟨I2.kIn, run_go (args := ⟨us, ks.zip ws⟩) (us := pick ix (us ++ ws)) (E := fun _ _ _ => False) G (hr.mono hj) hgd I2 (hb s2 us ws I2.kIn (by rw [← r.length]; exact l1) (by rw [← rz.length]; exact l2)) (vals_pick (r.append rz) ix) q2⟩
theorem ei_goK0 {ks : List Str} {ix : List Nat} {kws : List Keyword} {mk : MA} (G : FnG X.prog X.w X.K X.mg X.base j f fd ps (spM X.K n M)) (hr : Room k X.A) (hj : j ≤ k) (hgd : X.A.guards = some []) (hg : Gl X x) (hm : X.mg x = some (.ref f)) (hk : PySem.W.keepIn X.K (.ref f) = true) (hb : KB X.K fd ps 0 ks ix)
    (hkw : KI X kws mk) (lk : ∀ env S ds S1, mk env S = some (ds, S1) → ds.length = ks.length) (hn : ∀ env S ds S1, mKw ix mNil mk env S = some (ds, S1) → ds.length = n)
    (hall : (backToKw pos (keywordEach kws X.env)).all (·.1.isSome) = true := by rfl) (hks : (backToKw pos (keywordEach kws X.env)).filterMap (·.1) = ks := by rfl)
    (hdb : (x == ("__debug__" : Str)) = false := by decide)
    (hpl : ((backTo pos (starEach [] X.env)).any (·.1) || (backToKw pos (keywordEach kws X.env)).any (·.1.isNone)) = false := by rfl) : EI X (.Call (.Name x p) [] kws pos) (mCall M (mKw ix mNil mk)) := by
  obtain ⟨u, pk, ik⟩ := hkw
  refine ⟨tGoK X.K n 0 ix M 0 ks.length tNil u, ⟨fun pins s σ H Q I h => ?_⟩, im_goK (ms := mNil) (fun F φ S H σ env ds S' R E h Q a => by cases h; exact a φ H [] Ext.refl R .nil) ik (fun _ _ _ _ h => by cases h; rfl) lk hn⟩
  refine wpAny_Call_Name_kw (ld_glob I hg hm ?_ hdb)
  refine PySem.W.callWith_KW0 (h₀ := X.base) I.ok.mod.kin hk hall ?_ hpl
  refine thn (pk.run pos pins s σ H _ I h) fun ws s2 h2 => ?_
  obtain ⟨zs, H2, I2, rz, l1, l2, q2⟩ := h2
  rw [hks]
  exact ⟨I2.kIn, run_go (args := ⟨[], ks.zip ws⟩) (us := pick ix ([] ++ ws)) (E := fun _ _ _ => False) G (hr.mono hj) hgd I2 (hb s2 [] ws I2.kIn rfl (by rw [← rz.length]; exact l2)) (vals_pick (vs := [] ++ zs) (us := [] ++ ws) rz ix) q2⟩
/-- how many values are written -/
theorem len_nil : ∀ env S ds S1, mNil env S = some (ds, S1) → ds.length = 0 := fun _ _ _ _ h => by cases h; rfl
theorem len_cons {m : ME} {ms : MA} {n : Nat} (h : ∀ env S ds S1, ms env S = some (ds, S1) → ds.length = n) : ∀ env S ds S1, mCons m ms env S = some (ds, S1) → ds.length = n + 1 := fun env S ds S1 q => by
  obtain ⟨d, S2, _, q⟩ := bnd_some q
  obtain ⟨ds', S3, h3, q⟩ := bnd_some q
  cases q
  rw [List.length_cons, h _ _ _ _ h3]
theorem len_kw {ix : List Nat} {ms mk : MA} {a b n : Nat} (ha : ∀ env S ds S1, ms env S = some (ds, S1) → ds.length = a) (hb : ∀ env S ds S1, mk env S = some (ds, S1) → ds.length = b) (hn : ∀ (l : List Val), l.length = a + b → (pick ix l).length = n) :
    ∀ env S ds S1, mKw ix ms mk env S = some (ds, S1) → ds.length = n := fun env S ds S1 q => by
  obtain ⟨d1, S2, h2, q⟩ := bnd_some q
  obtain ⟨d2, S3, h3, q⟩ := bnd_some q
  cases q
  exact hn _ (by rw [List.length_append, ha _ _ _ _ h2, hb _ _ _ _ h3])
end
theorem kb_of {K : Frg} {x qual : Str} {st : Stmt} {f : Addr} {fd : FuncData} {ps : List Str} {n : Nat} {ks : List Str} {ix : List Nat} (Fu : Fun K x qual st f fd)
    (h : ∀ (kV doc pm : Value) (an : Option Addr) (cdv ct : Value) (us ws : List Value), us.length = n → ws.length = ks.length → bindArgs (PySem.W.fnOf x qual (defArgs st) (defBody st) (defScope st) .none kV doc pm an cdv ct) ⟨us, ks.zip ws⟩ = pure (ps.zip (pick ix (us ++ ws)))) : KB K fd ps n ks ix := by
  obtain ⟨oc, od, kV, doc, pm, an, cdv, ct, osl, rfl, lk, hcd⟩ := Fu.ex
  exact fun s us ws _ h1 h2 => .of_eq (h kV doc pm an cdv ct us ws h1 h2)
end Fx
/-! The law's end: from the law as a function of its script. -/
namespace Fx
open PySem PySem.Spec PyProof.Rows L2

theorem rvs_ints {K : Frg} {F φ : List Addr} {H : Hp} : ∀ ns : List Int, RVs K F φ H (ns.map Val.int) (ns.map V.int)
  | [] => .nil
  | n :: ns => .cons rv_int (rvs_ints ns)
section
variable {P : Program} {w : World} {K : Frg} {mg mb : Str → Option Value} {k : Nat} {fa a : Addr} {fd : FuncData} {x : Str} {M : MCall} {s : Shared} {vs : List Value} {ns : List Int}
/-- the call of the law, nothing but the script being known of the heap -/
theorem law_run (kin : K.In s.heap) (nsG : s.heap.Ns mainGlobals mg) (nsB : s.heap.Ns builtinsNs mb) (mbv : ∀ y : Str, y ≠ "__name__" → mb y = bootBuiltins y) (nol : s.heap.NoLimit) (gen0 : s.gens = #[])
    (obj : s.heap.get? a = some { cls := .type "list", data := .seq vs.toArray }) (hr : Room k callerA) (G : ∀ base : Heap, K.In base → base.Ns mainGlobals mg → FnG P w K mg base k fa fd [x] (spM K 1 M))
    (hb : ∀ (s : Shared) (u : Value), BindsTo s fd ⟨[u], []⟩ [(x, u)]) (hM : M [.scr (ns.map Val.int)] [] = some (.bl true, []))
    (H : Hp) (one : ∀ b o, H b = some o → b = a ∧ (∃ ob xs, o = .frz ob (.lst xs)) ∧ K.lookup a = none) (scr : Scr K H a (ns.map V.int)) (ok : HOk P w H s.heap) :
    codeAny (model P w) callerA (.call (.ref fa) ⟨[.ref a], []⟩) (fun r s' => r = .ok (.ret (.bool true)) ∧ OldK s.heap s'.heap ∧ s'.os = s.os ∧ AllBare s'.gens) s := by
  -- what is not the script stands untracked
  have free : ∀ {b : Addr} {o : Obj}, s.heap.get? b = some o → (b = a → K.lookup a ≠ none ∨ ∃ es ep, o.data = .dict es ep) → H b = none := fun {b o} e hn => by
    cases q : H b with
    | none => rfl
    | some u =>
      obtain ⟨rfl, _, lk⟩ := one b u q
      rcases hn rfl with z | ⟨es, ep, z⟩
      · exact absurd lk z
      · rw [obj] at e
        cases e
        cases z
  have ns_of : ∀ {b : Addr} {m : Str → Option Value}, s.heap.Ns b m → (hidT s.heap H).Ns b m := fun {b m} z => by
    obtain ⟨o, es, ep, e, d, r⟩ := z
    exact ⟨o, es, ep, hidT_get e (free e fun _ => Or.inr ⟨es, ep, d⟩), d, r⟩
  have kinB : K.In (hidT s.heap H) := fun b o e => hidT_get (kin b o e) (free (kin b o e) fun z => Or.inl (by subst z; rw [e]; exact fun z => by cases z))
  have en : Env0 P w K mg (hidT s.heap H) callerA [] s H := by
    refine ⟨rfl, ⟨kinB, ns_of nsG, ⟨mb, ns_of nsB, mbv⟩, ?_⟩, fun b o e => of_hidT e, Nat.le_of_eq (hidT_size s.heap H), trivial, fun b z => ?_, ok, .of_eq gen0⟩
    · obtain ⟨mc, z1, z2⟩ := nol
      exact ⟨mc, ns_of z1, z2⟩
    · exact absurd (show b ∈ ([] : List Addr) from z) (List.not_mem_nil)
  have promise : spM K 1 M [.ref a] H (fun v _ => v = .bl true) (fun _ _ _ => False) := by
    refine ⟨rfl, [], [], [], [.scr (ns.map Val.int)], .bl true, [], ⟨rfl, List.nodup_nil, fun i c q => by simp at q, fun b z => by cases z⟩, .cons ?_ .nil, hM, fun φ' H' v _ _ r => r.bl⟩
    unfold RV
    exact ⟨a, ns.map V.int, rfl, scr, rvs_ints ns⟩
  refine codeAny_mono ((G _ kinB (ns_of nsG)).run callerA [] s H ⟨[.ref a], []⟩ [.ref a] [.ref a] _ _ hr rfl en (hb s (.ref a)) (.cons rfl .nil) promise) fun res s' h => ?_
  cases res with
  | error e => exact (show False from h).elim
  | ok fl =>
    cases fl with
    | next => exact (show False from h).elim
    | brk => exact (show False from h).elim
    | cont => exact (show False from h).elim
    | ret u =>
      obtain ⟨v, H', osE, bare, un, ok', r, rfl⟩ := h
      obtain rfl : u = Value.bool true := r
      refine ⟨rfl, OldK.of_keep fun b o e => ?_, osE, bare⟩
      cases q : H b with
      | none => exact un.keep b o e q (fun z => absurd (show b ∈ ([] : List Addr) from z) List.not_mem_nil) (by simp)
      | some u =>
        obtain ⟨_, ⟨ob, xs, rfl⟩, _⟩ := one b u q
        have z1 := (ok b _ q).1
        have z2 := (ok' b _ (un.frzs b ob _ q)).1
        rw [e] at z1
        cases z1
        exact z2
end
theorem walkG {l : PySem.W.OpenLaw} {n k : Nat} {q : Program} {loose : List Str} {XP : (Str → Option Value) → Heap → Prop} {YP : World → Heap → Prop} {d : DefRec} {K : Params → Frg} {x : Str} {M : MCall}
    (hn : l.most = some n) (hn2 : n ≤ sizeLine) (hdf : d.params.defaults = []) (hr : Room k callerA) (hY : ∀ (w : World) (h : Heap), YP w h → (K w.params).In h)
    (G : ∀ (w : World) (mg : Str → Option Value) (fa : Addr) (h : Heap), (K w.params).In h → h.Ns mainGlobals mg → mg d.name = some (.ref fa) →
      ∃ fd : FuncData, (∀ (s : Shared) (u : Value), BindsTo s fd ⟨[u], []⟩ [(x, u)]) ∧ ∀ base : Heap, (K w.params).In base → base.Ns mainGlobals mg → FnG l.prog w (K w.params) mg base k fa fd [x] (spM (K w.params) 1 M))
    (hM : ∀ ns : List Int, ns.length ≤ n → M [.scr (ns.map Val.int)] [] = some (.bl true, [])) : PySem.W.WalkO q loose XP YP l.row.toRowW d [] (fun f vs => PySem.call f vs) := by
  refine Att.attach_call hn hdf fun w s₀ s₁ mg mb fa o pm cd doc a vs ns Gr Y _ _ _ hmg obj hints len gen0 => ?_
  have kin := hY w _ Y
  obtain ⟨fd, hb, hG⟩ := G w mg fa _ kin Gr.T.g hmg
  have rel := vals_ints hints
  have go := law_run (P := l.prog) (w := w) kin Gr.T.g Gr.T.b Gr.T.builtins Gr.T.nolimit gen0 obj hr hG hb (hM ns len)
  cases lk : (K w.params).lookup a with
  | some o' =>
    have e := kin a o' lk
    rw [obj] at e
    cases e
    refine go (fun _ => none) (fun b u z => by cases z) (.inr ⟨_, vs.toArray, _, lk, rfl, rfl, rfl, ?_, by simpa using rel⟩) (fun b u z => by cases z)
    rw [List.size_toArray, hints.length]
    exact Nat.le_trans len hn2
  | none =>
    have here : (fun b : Addr => if b = a then some (HO.frz { cls := .type "list", data := .seq vs.toArray } (.lst (ns.map V.int))) else none) a = some (HO.frz { cls := .type "list", data := .seq vs.toArray } (.lst (ns.map V.int))) := if_pos rfl
    refine go (fun b => if b = a then some (.frz { cls := .type "list", data := .seq vs.toArray } (.lst (ns.map V.int))) else none) (fun b u z => ?_) (.inl ⟨_, here⟩) (fun b u z => ?_)
    · split at z
      · rename_i hb
        cases z
        exact ⟨hb, ⟨_, _, rfl⟩, lk⟩
      · cases z
    · dsimp only at z
      split at z
      · rename_i hb
        cases z
        subst hb
        exact ⟨obj, by rw [List.length_map]; exact Nat.le_trans len hn2, vs, _, rel, obj⟩
      · cases z
end Fx
/-! Further forms: chains of comparisons, truth of any value, three names at once, constants, promises by name, replace. -/
namespace Fx
open PySem PySem.Spec PyProof.Rows L2
section
variable {X : Cx} {a b c : Expr} {ma mb mc : ME} {pos : Pos}
/-- a op b op' c -/
def mChain (f g : M2) (ma mb mc : ME) : ME := fun env S => bnd (ma env S) fun x S1 => bnd (mb env S1) fun y S2 => bnd (f x y S2) fun z S3 => match z with
  | .bl k => if k = true then bnd (mc env S3) fun w S4 => g y w S4 else some (.bl false, S3)
  | _ => none
theorem im_chain {K : Frg} {ta tb tc : TE} {r r' : R2} {f g : M2} (ia : Im K ta ma) (ib : Im K tb mb) (ic : Im K tc mc) (i : Im2 K r f) (j : Im2 K r' g) : Im K (tChain r r' ta tb tc) (mChain f g ma mb mc) := fun F φ S H σ env d S' R E h Q q => by
  obtain ⟨x, S1, h1, h⟩ := bnd_some h
  obtain ⟨y, S2, h2, h⟩ := bnd_some h
  obtain ⟨z, S3, h3, h⟩ := bnd_some h
  refine ia F φ S H σ env x S1 R E h1 _ fun φ1 H1 v e1 R1 r1 => ?_
  refine ib F φ1 S1 H1 σ env y S2 R1 (E.mono e1) h2 _ fun φ2 H2 u e2 R2 r2 => ?_
  refine i F φ2 S2 H2 x y v u z S3 R2 (RV.mono e2 _ _ r1) r2 h3 _ fun φ3 H3 w e3 R3 r3 => ?_
  cases z with
  | bl k =>
    refine ⟨k, r3.bl, ?_⟩
    cases k with
    | false =>
      cases h
      exact q φ3 H3 _ (e1.trans (e2.trans e3)) R3 rv_bl
    | true =>
      obtain ⟨t, S4, h4, h⟩ := bnd_some h
      refine ic F φ3 S3 H3 σ env t S4 R3 (E.mono (e1.trans (e2.trans e3))) h4 _ fun φ4 H4 w' e4 R4 r4 => ?_
      exact j F φ4 S4 H4 y t u w' d S' R4 (RV.mono (e3.trans e4) _ _ r2) r4 h Q (q.mono (e1.trans (e2.trans (e3.trans e4))))
  | _ => cases h
theorem ei_chain {op op' : CmpOp} {f g : M2} (ho : Op2 X (compareOp op) f) (ho' : Op2 X (compareOp op') g) (ha : EI X a ma) (hb : EI X b mb) (hc : EI X c mc) (hm : lastMarks [op, op'] [b, c] = false := by with_unfolding_all rfl) :
    EI X (.Compare a [op, op'] [b, c] pos) (mChain f g ma mb mc) := by
  obtain ⟨r, o, i⟩ := ho
  obtain ⟨r', o', i'⟩ := ho'
  obtain ⟨ta, pa, ia⟩ := ha
  obtain ⟨tb, pb, ib⟩ := hb
  obtain ⟨tc, pc, ic⟩ := hc
  exact ⟨_, pe_chain o o' pa pb pc hm, im_chain ia ib ic i i'⟩
theorem ti_chain {op op' : CmpOp} {f g : M2} (ho : Op2 X (compareOp op) f) (ho' : Op2 X (compareOp op') g) (ha : EI X a ma) (hb : EI X b mb) (hc : EI X c mc) (hm : lastMarks [op, op'] [b, c] = false := by with_unfolding_all rfl) :
    TI X (.Compare a [op, op'] [b, c] pos) (mTest (mChain f g ma mb mc)) := by
  obtain ⟨r, o, i⟩ := ho
  obtain ⟨r', o', i'⟩ := ho'
  obtain ⟨ta, pa, ia⟩ := ha
  obtain ⟨tb, pb, ib⟩ := hb
  obtain ⟨tc, pc, ic⟩ := hc
  exact ⟨_, pt_chain o o' pa pb pc hm, im_test (im_chain ia ib ic i i')⟩
/-- a, b, c = x, y, z -/
theorem si_par3 {i j l : Nat} {x y z : Str} {ms : MA} {px py pz pt : Pos} {kt k2 pt2} (hc : X.calm = true) (hN : X.N.Nodup) (hi : X.N[i]? = some x) (hj : X.N[j]? = some y) (hl : X.N[l]? = some z) (hij : i ≠ j) (hil : i ≠ l) (hjl : j ≠ l)
    (hx : X.env.scope.names.lookup x = some .local) (hy : X.env.scope.names.lookup y = some .local) (hz : X.env.scope.names.lookup z = some .local) (ha : AI X [a, b, c] ms)
    (hw : swappedStores [.Tuple [.Name x px, .Name y py, .Name z pz] kt pt] (.Tuple [a, b, c] k2 pt2) X.env = pure (some [x, y, z]))
    (hs : swapsWithSole [.Tuple [.Name x px, .Name y py, .Name z pz] kt pt] (.Tuple [a, b, c] k2 pt2) pos.line X.env = pure false := by rfl) :
    SI X (.Assign [.Tuple [.Name x px, .Name y py, .Name z pz] kt pt] (.Tuple [a, b, c] k2 pt2) pos) (mPar3 i j l ms) := by
  obtain ⟨t, p, q⟩ := ha
  refine ⟨_, ps_par3 hc hN hi hj hl hij hil hjl hx hy hz p hw hs, fun F φ S H σ env o S' R E h D a => ?_⟩
  obtain ⟨ds, S1, h1, h⟩ := bnd_some h
  split at h
  · rename_i d1 d2 d3 _
    cases h
    refine q F φ S H σ env _ S' R E h1 _ fun φ1 H1 vs e1 R1 r1 => ?_
    obtain ⟨v, ws, g1, g2, g3⟩ := r1.inv
    obtain ⟨v', ws', k1, k2, k3⟩ := g3.inv
    obtain ⟨v2, ws2, l1, l2, l3⟩ := k3.inv
    exact ⟨v, v', v2, by rw [g1, k1, l1, l3.inv0], a φ1 H1 _ e1 R1 ((((E.mono e1).set g2 i).set k2 j).set l2 l)⟩
  · cases h
/-- truth of any value -/
def mTru (m : ME) : MT := fun env S => bnd (m env S) fun d S1 => (truD S1 d).map fun b => (b, S1)
theorem tru_of {K : Frg} {F φ : List Addr} {S : Store} {H : Hp} {d : Val} {v : V} {b : Bool} (R : Rp K F φ S H) (r : RV K F φ H d v) (h : truD S d = some b) : TruV K v H b := by
  have lst : (lstOf S d).map (fun l => !l.isEmpty) = some b → TruV K v H b := fun h => by
    cases e : lstOf S d with
    | none => rw [e] at h; cases h
    | some l =>
      rw [e] at h
      cases h
      obtain ⟨p, xs, h1, h2, h3⟩ := lst_of R e r
      rw [h1]
      refine .inl ⟨xs, h2, ?_⟩
      have := h3.length
      cases l <;> cases xs <;> first | rfl | simp at this
  cases d with
  | non => unfold truD at h; cases h; rw [r.non]; rfl
  | bl k => unfold truD at h; cases h; rw [r.bl]; rfl
  | int k => unfold truD at h; cases h; rw [r.int]; rfl
  | str z =>
    have h : (if z.length ≤ sizeLine then some (z.length != 0) else none) = some b := h
    split at h
    · rename_i hz
      cases h
      rw [r.str]
      refine ⟨hz, ?_⟩
      cases q : z.length with
      | zero => rfl
      | succ n =>
        have e1 : (n + 1 != 0) = true := rfl
        have e2 : (((n + 1 : Nat) : Int) != 0) = true := by rw [bne_iff_ne]; omega
        rw [e1, e2]
    · cases h
  | tup l =>
    unfold truD at h
    cases h
    unfold RV at r
    obtain ⟨p, xs, h1, h2, h3⟩ := r
    rw [h1]
    refine .inr (.inl ⟨xs, h2, ?_⟩)
    have := h3.length
    cases l <;> cases xs <;> first | rfl | simp at this
  | fro l => exact lst h
  | scr l => exact lst h
  | ref i => exact lst h
  | obj C ks vs => unfold truD lstOf at h; cases h
  | raw w => unfold truD lstOf at h; cases h
theorem ti_tru (h : EI X a ma) (he : ∀ whole, isTrue a X.env whole = (do let v ← whole; standAt a.pos; holding [v] (truthy v)) := by intro _; rfl) : TI X a (mTru ma) := by
  obtain ⟨t, p, i⟩ := h
  refine ⟨_, pt_truth p he, fun F φ S H σ env b S' R E h Q q => ?_⟩
  obtain ⟨d, S1, h1, h⟩ := bnd_some h
  cases e : truD S1 d with
  | none => rw [e] at h; cases h
  | some k =>
    rw [e] at h
    cases h
    refine i F φ S H σ env d S' R E h1 _ fun φ1 H1 v e1 R1 r1 => ⟨b, tru_of R1 r1 e, q φ1 H1 e1 R1⟩
/-- a constant of the module -/
def GC (K : Frg) (mg : Str → Option Value) (x : Str) (d : Val) : Prop := ∃ v u, mg x = some u ∧ RelV v u ∧ ∀ F φ H, RV K F φ H d v
theorem ei_gc {x : Str} {d : Val} (h : GC X.K X.mg x d) (hg : Gl X x) (hd : (x == ("__debug__" : Str)) = false := by decide) : EI X (.Name x pos) (mC d) := by
  obtain ⟨v, u, h1, h2, h3⟩ := h
  exact ei_glob hg h1 h2 h3 hd
theorem GC.str {K : Frg} {mg : Str → Option Value} {x z : Str} {t : Tok} (h : mg x = some (.str z t)) : GC K mg x (.str z) := ⟨.str z, _, h, ⟨t, rfl⟩, fun _ _ _ => rv_str⟩
theorem GC.int {K : Frg} {mg : Str → Option Value} {x : Str} {z : Int} {t : Tok} (h : mg x = some (.int z t)) : GC K mg x (.int z) := ⟨.int z, _, h, ⟨t, rfl⟩, fun _ _ _ => rv_int⟩
/-- written values that are ints, texts, None, truths -/
def wOf : Value → Option Val
  | .none => some .non
  | .bool b => some (.bl b)
  | .int i _ => some (.int i)
  | .str x _ => some (.str x)
  | _ => none
theorem w_of {u : Value} {d : Val} (h : wOf u = some d) : ∃ v, RelV v u ∧ ∀ (K : Frg) F φ H, RV K F φ H d v := by
  unfold wOf at h
  split at h
  · cases h; exact ⟨.non, rfl, fun _ _ _ _ => rv_non⟩
  · cases h; exact ⟨.bl _, rfl, fun _ _ _ _ => rv_bl⟩
  · cases h; exact ⟨.int _, ⟨_, rfl⟩, fun _ _ _ _ => rv_int⟩
  · cases h; exact ⟨.str _, ⟨_, rfl⟩, fun _ _ _ _ => rv_str⟩
  · cases h
theorem w_all : ∀ {us : List Value} {ds : List Val}, mapO wOf us = some ds → ∃ vs, Vals vs us ∧ ∀ (K : Frg) F φ H, RVs K F φ H ds vs
  | [], ds, h => by
    unfold mapO at h
    cases h
    exact ⟨[], .nil, fun _ _ _ _ => .nil⟩
  | u :: us, ds, h => by
    unfold mapO at h
    cases q : wOf u with
    | none => rw [q] at h; cases h
    | some d =>
      rw [q] at h
      simp only [Option.bind_some] at h
      cases q2 : mapO wOf us with
      | none => rw [q2] at h; cases h
      | some ds' =>
        rw [q2] at h
        cases h
        obtain ⟨v, h1, h2⟩ := w_of q
        obtain ⟨vs, h3, h4⟩ := w_all q2
        exact ⟨v :: vs, .cons h1 h3, fun K F φ H => .cons (h2 K F φ H) (h4 K F φ H)⟩
/-- a tuple of the module -/
theorem GC.tup {K : Frg} {mg : Str → Option Value} {x : Str} {p : Addr} {cl dd dt sl} {its : Array Value} {n : Nat} {ds : List Val} (h : mg x = some (.ref p)) (l : K.lookup p = some ⟨cl, dd, dt, sl⟩) (hc : cl = .type "tuple") (hd : dt = .seq its n) (hz : its.size ≤ sizeLine) (w : mapO wOf its.toList = some ds) : GC K mg x (.tup ds) := by
  obtain ⟨vs, h1, h2⟩ := w_all w
  refine ⟨.ref p, _, h, rfl, fun F φ H => ?_⟩
  unfold RV
  exact ⟨p, vs, rfl, .inr ⟨_, its, n, l, hc, hd, hz, h1⟩, h2 K F φ H⟩

/-! ### promises by name -/
def Df (K : Frg) (mg : Str → Option Value) (x : Str) (st : Stmt) : Prop := ∃ f fd, Fun K x x st f fd ∧ mg x = some (.ref f)
def Has (P : Program) (w : World) (K : Frg) (mg : Str → Option Value) (base : Heap) (k : Nat) (x : Str) (st : Stmt) (ps : List Str) (M : MCall) : Prop :=
  ∃ f fd, Fun K x x st f fd ∧ mg x = some (.ref f) ∧ Binds K fd ps [] ∧ FnG P w K mg base k f fd ps (spM K ps.length M)
theorem has_of {P : Program} {w : World} {K : Frg} {mg : Str → Option Value} {base : Heap} {k : Nat} {x : Str} {st : Stmt} {N ps : List Str} {M : MCall} {m : MS} (D : Df K mg x st) (Sc : FnScope N ps (defScope st))
    (hb : ∀ (kV doc pm : Value) (an : Option Addr) (cdv ct : Value) (us : List Value), us.length = ps.length → bindArgs (PySem.W.fnOf x x (defArgs st) (defBody st) (defScope st) .none kV doc pm an cdv ct) ⟨us, []⟩ = pure (ps.zip us))
    (body : ∀ (f : Addr) (cdv : Value) (A : Around) (outer : List Env) (s : Shared) (H : Hp) (E : XK), Room k (A.deeper (envOfC x (defScope st) s.heap.objs.size f cdv)) → A.guards = some [] →
      BI (cx0 P w K mg base N x (defScope st) f cdv A outer s H E) (defBody st) m)
    (href : ∀ ds S d S', ds.length = ps.length → Wf S → refLtL S.length ds = true → M ds S = some (d, S') → ∃ n k d0 S0, S.length ≤ n ∧ runB N m ds S = some (d0, S0) ∧ Fin n k d0 S0 d S') : Has P w K mg base (k + 1) x st ps M := by
  obtain ⟨f, fd, Fu, g⟩ := D
  exact ⟨f, fd, Fu, g, Fu.binds hb, fi_mk Fu Sc (body f) href⟩
variable {j k n : Nat} {x : Str} {p : Pos} {e : Expr} {es : List Expr} {ms : MA} {M : MCall} {ps : List Str} {st : Stmt}
theorem ei_has (G : Has X.prog X.w X.K X.mg X.base j x st ps M) (hr : Room k X.A) (hj : j ≤ k) (hgd : X.A.guards = some []) (hg : Gl X x) (ha : AI X (e :: es) ms) (hn : ∀ env S ds S1, ms env S = some (ds, S1) → ds.length = ps.length) (hdb : (x == ("__debug__" : Str)) = false := by decide)
    (he : starEach (e :: es) X.env = (false, eval e X.env) :: starEach es X.env := by rfl) (hpl : (backTo pos (starEach es X.env)).any (·.1) = false := by rfl) : EI X (.Call (.Name x p) (e :: es) [] pos) (mCall M ms) := by
  obtain ⟨f, fd, Fu, g, b, F⟩ := G
  exact ei_go F hr hj hgd hg g Fu.kp b ha hn hdb he hpl
theorem ei_has0 (G : Has X.prog X.w X.K X.mg X.base j x st [] M) (hr : Room k X.A) (hj : j ≤ k) (hgd : X.A.guards = some []) (hg : Gl X x) (hdb : (x == ("__debug__" : Str)) = false := by decide) : EI X (.Call (.Name x p) [] [] pos) (mCall M mNil) := by
  obtain ⟨f, fd, Fu, g, b, F⟩ := G
  exact ei_go0 F hr hj hgd hg g Fu.kp b hdb
theorem ei_hasK {ks : List Str} {ix : List Nat} {kws : List Keyword} {a' : Nat} {mk : MA} (G : Has X.prog X.w X.K X.mg X.base j x st ps M) (hr : Room k X.A) (hj : j ≤ k) (hgd : X.A.guards = some []) (hg : Gl X x) (ha : AI X (e :: es) ms) (hkw : KI X kws mk)
    (hb : ∀ (kV doc pm : Value) (an : Option Addr) (cdv ct : Value) (us ws : List Value), us.length = a' → ws.length = ks.length → bindArgs (PySem.W.fnOf x x (defArgs st) (defBody st) (defScope st) .none kV doc pm an cdv ct) ⟨us, ks.zip ws⟩ = pure (ps.zip (pick ix (us ++ ws))))
    (la : ∀ env S ds S1, ms env S = some (ds, S1) → ds.length = a') (lk : ∀ env S ds S1, mk env S = some (ds, S1) → ds.length = ks.length) (hn : ∀ (l : List Val), l.length = a' + ks.length → (pick ix l).length = ps.length)
    (hall : (backToKw pos (keywordEach kws X.env)).all (·.1.isSome) = true := by rfl) (hks : (backToKw pos (keywordEach kws X.env)).filterMap (·.1) = ks := by rfl)
    (hdb : (x == ("__debug__" : Str)) = false := by decide) (he : starEach (e :: es) X.env = (false, eval e X.env) :: starEach es X.env := by rfl)
    (hpl : ((backTo pos (starEach (e :: es) X.env)).any (·.1) || (backToKw pos (keywordEach kws X.env)).any (·.1.isNone)) = false := by rfl) : EI X (.Call (.Name x p) (e :: es) kws pos) (mCall M (mKw ix ms mk)) := by
  obtain ⟨f, fd, Fu, g, b, F⟩ := G
  exact ei_goK F hr hj hgd hg g Fu.kp (kb_of Fu hb) ha hkw la lk (len_kw la lk hn) hall hks hdb he hpl
theorem ei_hasK0 {ks : List Str} {ix : List Nat} {kws : List Keyword} {mk : MA} (G : Has X.prog X.w X.K X.mg X.base j x st ps M) (hr : Room k X.A) (hj : j ≤ k) (hgd : X.A.guards = some []) (hg : Gl X x) (hkw : KI X kws mk)
    (hb : ∀ (kV doc pm : Value) (an : Option Addr) (cdv ct : Value) (us ws : List Value), us.length = 0 → ws.length = ks.length → bindArgs (PySem.W.fnOf x x (defArgs st) (defBody st) (defScope st) .none kV doc pm an cdv ct) ⟨us, ks.zip ws⟩ = pure (ps.zip (pick ix (us ++ ws))))
    (lk : ∀ env S ds S1, mk env S = some (ds, S1) → ds.length = ks.length) (hn : ∀ (l : List Val), l.length = 0 + ks.length → (pick ix l).length = ps.length)
    (hall : (backToKw pos (keywordEach kws X.env)).all (·.1.isSome) = true := by rfl) (hks : (backToKw pos (keywordEach kws X.env)).filterMap (·.1) = ks := by rfl)
    (hdb : (x == ("__debug__" : Str)) = false := by decide)
    (hpl : ((backTo pos (starEach [] X.env)).any (·.1) || (backToKw pos (keywordEach kws X.env)).any (·.1.isNone)) = false := by rfl) : EI X (.Call (.Name x p) [] kws pos) (mCall M (mKw ix mNil mk)) := by
  obtain ⟨f, fd, Fu, g, b, F⟩ := G
  exact ei_goK0 F hr hj hgd hg g Fu.kp (kb_of Fu hb) hkw lk (len_kw len_nil lk hn) hall hks hdb hpl
end

/-! ### a text's method, then != e.replace(..): a token is out behind a written text -/
section
variable {X : Cx}
def mRepl (y z : Str) (m : ME) : ME := fun env S => bnd (m env S) fun d S1 => match d with
  | .str x => if x.length + (x.length + 1) * z.length ≤ 16777216 then some (.str (Txt.replace x y z), S1) else none
  | _ => none
theorem im_repl {K : Frg} {to : TE} {m : ME} {y z : Str} (i : Im K to m) : Im K (CwR.tReplC to y z) (mRepl y z m) := fun F φ S H σ env d S' R E h Q q => by
  obtain ⟨d0, S1, h1, h⟩ := bnd_some h
  refine i F φ S H σ env d0 S1 R E h1 _ fun φ1 H1 v e1 R1 r1 => ?_
  cases d0 with
  | str x =>
    dsimp only at h
    split at h
    · rename_i hz
      cases h
      exact ⟨x, r1.str, hz, q φ1 H1 _ e1 R1 rv_str⟩
    · cases h
  | _ => cases h
theorem ti_joinNe {sep y z : Str} {e o : Expr} {k0 k1 k2 : Nat} {p0 p1 p2 ap ap2 cp cp2 pos : Pos} {me mo : ME} (he : EI X e me) (ho : EI X o mo) (hyz : (y == z) = false) (hu : X.A.units + 64 < cLine)
    (hst1 : starEach [e] X.env = (false, eval e X.env) :: starEach [] X.env := by rfl)
    (hbase1 : attributeBase (.Constant (.str sep) k0 p0) "join" X.env (eval (.Constant (.str sep) k0 p0) X.env) = eval (.Constant (.str sep) k0 p0) X.env := by rfl)
    (hfew : ((backTo cp (starEach [e] X.env)).all (fun x => !x.1) && (backToKw cp (keywordEach [] X.env)).all (fun x => x.1.isSome)
      && decide ([e].length + ([] : List Keyword).length + (if ([] : List Keyword).isEmpty then 0 else 1) < 30)) = true := by rfl)
    (hline1 : (ap.endLine == cp.line) = true := by rfl) (hplain : (backTo cp (starEach [] X.env)).any (·.1) = false := by rfl)
    (hst : starEach [.Constant (.str y) k1 p1, .Constant (.str z) k2 p2] X.env = [(false, eval (.Constant (.str y) k1 p1) X.env), (false, eval (.Constant (.str z) k2 p2) X.env)] := by rfl)
    (hbase : attributeBase o "replace" X.env (eval o X.env) = eval o X.env := by rfl) (hline : (ap2.endLine == cp2.line) = true := by rfl)
    (hm : behindInMarks .NotEq (.Call (.Attribute o "replace" ap2) [.Constant (.str y) k1 p1, .Constant (.str z) k2 p2] [] cp2) = false := by rfl) :
    TI X (.Compare (.Call (.Attribute (.Constant (.str sep) k0 p0) "join" ap) [e] [] cp) [.NotEq] [.Call (.Attribute o "replace" ap2) [.Constant (.str y) k1 p1, .Constant (.str z) k2 p2] [] cp2] pos)
      (mTest (mBin vNe (mMeth "str" vJoin (mC (.str sep)) (mCons me mNil)) (mRepl y z mo))) := by
  obtain ⟨te, pe, ie⟩ := he
  obtain ⟨to, po, io⟩ := ho
  obtain ⟨rj, mj, ij⟩ := (opm_join : OpM X "str.join" vJoin)
  obtain ⟨rn, on, inn⟩ := (op2_ne hu : Op2 X (compareOp .NotEq) vNe)
  have ih : Im X.K (tBM X.K "str" rj (tC (.str sep)) (tCons te tNil)) (mMeth "str" vJoin (mC (.str sep)) (mCons me mNil)) := fun F φ S H σ env d S' R E h Q a => by
    obtain ⟨d0, S1, h1, h⟩ := bnd_some h
    cases h1
    split at h
    · obtain ⟨as, S2, h2, h⟩ := bnd_some h
      refine ⟨by first | rfl | exact ty_of R (rv_str (b := sep)) rfl, ?_⟩
      refine im_cons ie (u := tNil) (ms := mNil) (fun F φ S H σ env ds S' R E h Q a => by cases h; exact a φ H [] Ext.refl R .nil) F φ S H σ env as S2 R E h2 _ fun φ2 H2 vs e2 R2 r2 => ?_
      exact ij F φ2 S2 H2 (.str sep) as (.str sep) vs d S' R2 rv_str r2 h Q (a.mono e2)
    · cases h
  refine ⟨tTest (tOp rn (tBM X.K "str" rj (tC (.str sep)) (tCons te tNil)) (CwR.tReplC to y z)), ⟨fun pins s σ H Q I h => ?_⟩, im_test (im_bin ih (im_repl io) inn)⟩
  -- the left side, with a token out
  have left : wpAny (model X.prog X.w) X.A (eval (.Call (.Attribute (.Constant (.str sep) k0 p0) "join" ap) [e] [] cp) X.env)
      (fun v s1 => 1 ≤ s1.toks ∧ ∃ x H1, Inv X pins σ H1 s1 ∧ RelV x v ∧ (CwR.tReplC to y z) σ H1 fun u H2 => rn x u H2 fun c H3 => ∃ k, c = .bl k ∧ Q k H3) X.xe s := by
    refine wpAny_Call_method_late hbase1 hfew hline1 rfl (Calls.Constant_str ?_)
    obtain ⟨ty, h⟩ := h
    have I1 : Inv X pins σ H { s with toks := s.toks + 1 } := I.tok _
    have rs : RelV (.str sep) (.str sep s.toks) := ⟨s.toks, rfl⟩
    obtain ⟨g1, g2⟩ := tyV_is I1 rs ty
    refine ⟨"str", _, PySem.F.plainAttrs_str, PySem.F.slot_str_join, PySem.F.type_str_join, g1, g2, ?_⟩
    have hA := (pa_cons (X := X) pe pa_nil hst1).run cp pins { s with toks := s.toks + 1 } σ H _ I1 h
    rw [hst1] at hA ⊢
    refine Calls.callWith_builtin (by show (false || (backTo cp (starEach [] X.env)).any (·.1)) = false; rw [hplain]; rfl) (Calls.evalArgs_plain ?_)
    refine wpAny_mono (PySem.wpAny_toks hA) (fun us s2 q => ?_) fun _ _ z => z.2
    obtain ⟨hk, vs, H2, I2, r2, q2⟩ := q
    refine wpAny_mono (PySem.wpAny_toks (mj pins s2 σ H2 (.str sep) vs (.str sep s.toks) us _ I2 rs r2 q2)) (fun v s3 q => ?_) fun _ _ z => z.2
    obtain ⟨hk3, x, H3, I3, r3, q3⟩ := q
    have hk' : s.toks + 1 ≤ s2.toks := hk
    exact ⟨by omega, x, H3, I3, r3, q3⟩
  refine wpAny_isTrue_Compare1 (thn left fun v s1 q1 => ?_) hm
  obtain ⟨hk, x, H1, I1, r1, q1⟩ := q1
  refine thn (CwR.pet_replC (X := X) po hyz hst hbase hline pins s1 σ H1 _ hk I1 q1) fun u s2 q2 => ?_
  obtain ⟨y', H2, I2, r2, q2⟩ := q2
  refine thn (on pins s2 σ H2 x y' v u _ I2 r1 r2 q2) fun c s3 q3 => ?_
  obtain ⟨z', H3, I3, r3, k, e', q3⟩ := q3
  subst e'
  cases r3
  exact wpAny_truthy_bool ⟨H3, I3, q3⟩
end
end Fx
/-! A def's meaning as its body's run; lemmas on texts and places. -/
namespace Fx
open PySem PySem.Spec PyProof.Rows L2
/-- the body's run, what it laid behind the first |S| + e cells frozen -/
noncomputable def genM (e k : Nat) (N : List Str) (m : MS) : MCall := fun ds S => (runB N m ds S).bind fun r =>
  if S.length + e ≤ r.2.length then (frz r.2 (S.length + e) k r.1).bind fun d => (mapO (frzC r.2 (S.length + e) k) (r.2.take (S.length + e))).map fun S' => (d, S') else none
theorem ref_gen {e k n : Nat} {N : List Str} {m : MS} : ∀ ds S d S', ds.length = n → Wf S → refLtL S.length ds = true → genM e k N m ds S = some (d, S') → ∃ n k d0 S0, S.length ≤ n ∧ runB N m ds S = some (d0, S0) ∧ Fin n k d0 S0 d S' := by
  intro ds S d S' _ _ _ h
  unfold genM at h
  cases q : runB N m ds S with
  | none => rw [q] at h; cases h
  | some r =>
    obtain ⟨d0, S0⟩ := r
    rw [q] at h
    simp only [Option.bind_some] at h
    split at h
    · rename_i hl
      cases q1 : frz S0 (S.length + e) k d0 with
      | none => rw [q1] at h; cases h
      | some d1 =>
        rw [q1] at h
        simp only [Option.bind_some] at h
        cases q2 : mapO (frzC S0 (S.length + e) k) (S0.take (S.length + e)) with
        | none => rw [q2] at h; cases h
        | some S1 =>
          rw [q2] at h
          cases h
          exact ⟨S.length + e, k, d0, S0, by omega, rfl, hl, q1, q2⟩
    · cases h
theorem gen_of {e k : Nat} {N : List Str} {m : MS} {ds : List Val} {S S1 J : Store} {d0 d : Val} (hr : runB N m ds S = some (d0, S1 ++ J)) (hl : S1.length = S.length + e) (w : Wf S1) (hf : frz (S1 ++ J) S1.length (k + 1) d0 = some d) : genM e (k + 1) N m ds S = some (d, S1) := by
  obtain ⟨f1, f2, f3⟩ := Fin.pure w hf
  unfold genM
  rw [hr]
  simp only [Option.bind_some]
  rw [← hl, if_pos f1, f2]
  simp only [Option.bind_some]
  rw [f3]
  rfl
theorem gen_id {k : Nat} {N : List Str} {m : MS} {ds : List Val} {S S1 J : Store} {d : Val} (hr : runB N m ds S = some (d, S1 ++ J)) (hl : S1.length = S.length) (w : Wf S1) (hf : refLt S1.length d = true) : genM 0 (k + 1) N m ds S = some (d, S1) :=
  gen_of hr (by omega) w (frz_id hf)
theorem gen_id0 {k : Nat} {N : List Str} {m : MS} {ds : List Val} {S S1 : Store} {d : Val} (hr : runB N m ds S = some (d, S1)) (hl : S1.length = S.length) (w : Wf S1) (hf : refLt S1.length d = true) : genM 0 (k + 1) N m ds S = some (d, S1) :=
  gen_id (J := []) (by rw [List.append_nil]; exact hr) hl w hf

mutual
theorem refLt_le {n m : Nat} (h : n ≤ m) : ∀ d : Val, refLt n d = true → refLt m d = true
  | .non, _ => by unfold refLt; rfl
  | .bl _, _ => by unfold refLt; rfl
  | .int _, _ => by unfold refLt; rfl
  | .str _, _ => by unfold refLt; rfl
  | .raw _, _ => by unfold refLt; rfl
  | .ref i, q => by unfold refLt at q ⊢; rw [decide_eq_true_eq] at q ⊢; omega
  | .tup l, q => by unfold refLt at q ⊢; exact refLtL_le h l q
  | .fro l, q => by unfold refLt at q ⊢; exact refLtL_le h l q
  | .scr l, q => by unfold refLt at q ⊢; exact refLtL_le h l q
  | .obj _ _ l, q => by unfold refLt at q ⊢; exact refLtL_le h l q
theorem refLtL_le {n m : Nat} (h : n ≤ m) : ∀ l : List Val, refLtL n l = true → refLtL m l = true
  | [], _ => by unfold refLtL; rfl
  | d :: ds, q => by
    unfold refLtL at q ⊢
    rw [Bool.and_eq_true] at q ⊢
    exact ⟨refLt_le h d q.1, refLtL_le h ds q.2⟩
end
theorem refLtC_le {n m : Nat} (h : n ≤ m) (c : Cell) (q : refLtC n c = true) : refLtC m c = true := by
  cases c with
  | lst l => exact refLtL_le h l q
  | ins C ks vs => exact refLtL_le h vs q
theorem Wf.nil : Wf [] := fun i c h => by simp at h
theorem Wf.app {S J : Store} (w : Wf S) (h : ∀ c ∈ J, refLtC (S.length + J.length) c = true) : Wf (S ++ J) := fun i c q => by
  rw [List.length_append]
  by_cases hi : i < S.length
  · rw [List.getElem?_append_left hi] at q
    exact refLtC_le (by omega) c (w i c q)
  · rw [List.getElem?_append_right (by omega)] at q
    exact h c (List.mem_of_getElem? q)
theorem Wf.lst {S : Store} {l : List Val} (w : Wf S) (h : refLtL S.length l = true) : Wf (S ++ [.lst l]) := w.app fun c hc => by
  rw [List.mem_singleton.mp hc]
  exact refLtL_le (by simp) l h
theorem Wf.set {S : Store} {i : Nat} {c : Cell} (w : Wf S) (h : refLtC S.length c = true) : Wf (S.set i c) := fun j d q => by
  rw [List.length_set]
  by_cases hj : i = j
  · subst hj
    by_cases hl : i < S.length
    · rw [List.getElem?_set_self hl] at q
      cases q
      exact h
    · rw [List.getElem?_eq_none (by rw [List.length_set]; omega)] at q
      cases q
  · rw [List.getElem?_set_ne hj] at q
    exact w j d q
@[simp] theorem refLtL_nil {n : Nat} : refLtL n [] = true := by unfold refLtL; rfl
@[simp] theorem refLtL_cons {n : Nat} {d : Val} {ds : List Val} : refLtL n (d :: ds) = (refLt n d && refLtL n ds) := by rw [refLtL]
@[simp] theorem refLt_int {n : Nat} {i : Int} : refLt n (.int i) = true := by unfold refLt; rfl
@[simp] theorem refLt_str {n : Nat} {i : Str} : refLt n (.str i) = true := by unfold refLt; rfl
@[simp] theorem refLt_bl {n : Nat} {i : Bool} : refLt n (.bl i) = true := by unfold refLt; rfl
@[simp] theorem refLt_non {n : Nat} : refLt n .non = true := by unfold refLt; rfl
@[simp] theorem refLt_tup {n : Nat} {l : List Val} : refLt n (.tup l) = refLtL n l := by rw [refLt]
@[simp] theorem refLt_fro {n : Nat} {l : List Val} : refLt n (.fro l) = refLtL n l := by rw [refLt]
@[simp] theorem refLt_scr {n : Nat} {l : List Val} : refLt n (.scr l) = refLtL n l := by rw [refLt]
@[simp] theorem refLt_ref {n i : Nat} : refLt n (.ref i) = decide (i < n) := by rw [refLt]
theorem refLtL_map {α : Type} {n : Nat} {f : α → Val} (h : ∀ x, refLt n (f x) = true) : ∀ l : List α, refLtL n (l.map f) = true
  | [] => by simp
  | x :: xs => by simp [h x, refLtL_map h xs]
@[simp] theorem refLtL_ints {n : Nat} (l : List Int) : refLtL n (l.map Val.int) = true := refLtL_map (fun _ => refLt_int) l
/-! ### texts -/
def sL (l : List Nat) : Str := ⟨l.toArray⟩
@[simp] theorem cps_sL (l : List Nat) : (sL l).cps.toList = l := rfl
@[simp] theorem len_sL (l : List Nat) : (sL l).length = l.length := rfl
theorem len_cps (z : Str) : z.length = z.cps.toList.length := by simp [Str.length]
@[simp] theorem sL_cps (z : Str) : sL z.cps.toList = z := by cases z; simp [sL]
theorem str_ext {x y : Str} (h : x.cps.toList = y.cps.toList) : x = y := by rw [← sL_cps x, ← sL_cps y, h]
theorem sL_inj {l m : List Nat} : sL l = sL m ↔ l = m := ⟨fun h => by rw [← cps_sL l, ← cps_sL m, h], fun h => by rw [h]⟩
theorem sL_app (l m : List Nat) : sL l ++ sL m = sL (l ++ m) := str_ext (by
  show (l.toArray ++ m.toArray).toList = _
  simp)
theorem atI_nat {α : Type} (l : List α) (k : Nat) : L2.atI l (k : Int) = l[k]? := by
  unfold L2.atI ixN
  rw [if_pos (by omega)]
  by_cases h : k < l.length
  · rw [if_pos (by omega)]
    simp
  · rw [if_neg (by omega), List.getElem?_eq_none (by omega)]
    rfl
theorem atI_last {α : Type} (l : List α) (h : l ≠ []) : L2.atI l (-1) = l.getLast? := by
  have hl : 0 < l.length := List.length_pos_iff.mpr h
  unfold L2.atI ixN
  rw [if_neg (by omega), if_pos (by omega), Option.bind_some, List.getLast?_eq_getElem?]
  congr 1
  omega
theorem cutS_nat (z : Str) (a b : Nat) : cutS z (some (a : Int)) (some (b : Int)) = sL ((z.cps.toList.drop a).take (b - a)) := by
  apply str_ext
  unfold cutS
  rw [HT.sIx_nat, HT.sIx_nat, cps_sL, len_cps]
  show ((z.cps.toList.drop (min a _)).take (min b _ - min a _)) = _
  by_cases ha : a ≤ z.cps.toList.length
  · rw [Nat.min_eq_left ha]
    by_cases hb : b ≤ z.cps.toList.length
    · rw [Nat.min_eq_left hb]
    · rw [Nat.min_eq_right (by omega), List.take_of_length_le (by rw [List.length_drop]; omega), List.take_of_length_le (by rw [List.length_drop]; omega)]
  · rw [show min a z.cps.toList.length = z.cps.toList.length by omega, List.drop_length, List.drop_eq_nil_of_le (as := z.cps.toList) (i := a) (by omega)]
    simp
theorem cutD_to (l : List Val) (b : Nat) : cutD l none (some (b : Int)) = l.take b := by
  unfold cutD
  rw [HT.sIx_nat, HT.sIx_none, List.drop_zero, Nat.sub_zero]
  by_cases hb : b ≤ l.length
  · rw [Nat.min_eq_left hb]
  · rw [Nat.min_eq_right (by omega), List.take_length, List.take_of_length_le (by omega)]
@[simp] theorem at_len (S : Store) (c : Cell) : (S ++ [c])[S.length]? = some c := by simp
@[simp] theorem set_len (S : Store) (c c' : Cell) : (S ++ [c]).set S.length c' = S ++ [c'] := by
  rw [List.set_append_right _ _ (Nat.le_refl _), Nat.sub_self]
  rfl
/-! ### the join and the replacement of one sign by nothing -/
theorem repl_del (c : Nat) : ∀ l : List Nat, StrLaws.replL [c] [] l = l.filter fun x => x != c
  | [] => by rw [StrLaws.replL_nil]; rfl
  | x :: xs => by
    by_cases h : x = c
    · subst h
      rw [StrLaws.replL_hit (by simp) (by simp), List.nil_append, List.filter_cons_of_neg (by simp)]
      show StrLaws.replL [x] [] xs = _
      exact repl_del x xs
    · rw [StrLaws.replL_miss (by simp [h]), List.filter_cons_of_pos (by simp [h]), repl_del c xs]
theorem replace_del {x y : Str} {c : Nat} (h : y.cps.toList = [c]) : Txt.replace x y (Str.ofString "") = sL (x.cps.toList.filter fun a => a != c) := by
  apply str_ext
  rw [StrLaws.replace_list (by rw [len_cps, h]; exact Nat.le_refl _), h, cps_sL, ← repl_del c]
  rfl
theorem glueL_nil : ∀ ys : List Str, StrLaws.glueL [] ys = (ys.map fun y => y.cps.toList).flatten
  | [] => rfl
  | y :: ys => by
    rw [StrLaws.glueL, glueL_nil ys]
    simp
theorem join_nil (ys : List Str) : Txt.join (Str.ofString "") ys = sL ((ys.map fun y => y.cps.toList).flatten) := by
  apply str_ext
  rw [cps_sL]
  cases ys with
  | nil => rfl
  | cons y ys =>
    show (Builtin.Str.glued _ (y :: ys)).cps.toList = _
    rw [StrLaws.glued_list, StrLaws.glueT]
    rw [show (Str.ofString "").cps.toList = [] from rfl, glueL_nil]
    simp
end Fx
/-! The meanings' equations, for simp. -/
namespace Fx
open PySem PySem.Spec PyProof.Rows L2
section
variable (env : VEnv) (S : Store) (m n : MS) (e e2 e3 : ME) (t u : MT) (ms ms2 : MA) (f : M1) (g g2 : M2) (mg : MG) (mgs : MGs) (a b d : Val) (o1 o2 : MO) (sl : MSl) (c : MCall)
@[simp] theorem s_then : mThen m n env S = bnd (m env S) fun o S1 => match o with
  | .nx e => n e S1
  | .rt d => some (.rt d, S1)
  | .bk e => some (.bk e, S1)
  | .ct e => some (.ct e, S1) := nr rfl
@[simp] theorem s_skip : mSkip env S = some (.nx env, S) := nr rfl
@[simp] theorem s_set : mSet e mg env S = bnd (e env S) fun d S1 => bnd (mg d env S1) fun e S2 => some (.nx e, S2) := nr rfl
@[simp] theorem s_when : mWhen t m n env S = bnd (t env S) fun b S1 => if b = true then m env S1 else n env S1 := nr rfl
@[simp] theorem s_ret : mRet e env S = bnd (e env S) fun d S1 => some (.rt d, S1) := nr rfl
@[simp] theorem s_retN : mRetN env S = some (.rt .non, S) := nr rfl
@[simp] theorem s_do : mDo e env S = bnd (e env S) fun _ S1 => some (.nx env, S1) := nr rfl
@[simp] theorem s_bk : mBk env S = some (.bk env, S) := nr rfl
@[simp] theorem s_ct : mCt env S = some (.ct env, S) := nr rfl
@[simp] theorem s_par (i j : Nat) : mPar i j ms env S = bnd (ms env S) fun ds S1 => match ds with
  | [a, b] => some (.nx ((env.set i (some a)).set j (some b)), S1)
  | _ => none := nr rfl
@[simp] theorem s_par3 (i j l : Nat) : mPar3 i j l ms env S = bnd (ms env S) fun ds S1 => match ds with
  | [a, b, c] => some (.nx (((env.set i (some a)).set j (some b)).set l (some c)), S1)
  | _ => none := nr rfl
@[simp] theorem s_test : mTest e env S = bnd (e env S) fun d S1 => match d with | .bl b => some (b, S1) | _ => none := nr rfl
@[simp] theorem s_and : mAnd t u env S = bnd (t env S) fun b S1 => if b = true then u env S1 else some (false, S1) := nr rfl
@[simp] theorem s_or : mOr t u env S = bnd (t env S) fun b S1 => if b = true then some (true, S1) else u env S1 := nr rfl
@[simp] theorem s_not : mNot t env S = bnd (t env S) fun b S1 => some (!b, S1) := nr rfl
@[simp] theorem s_yes : mYes env S = some (true, S) := nr rfl
@[simp] theorem s_andV : mAndV e e2 env S = bnd (mTest e env S) fun b S1 => if b = true then e2 env S1 else some (.bl false, S1) := nr rfl
@[simp] theorem s_orV : mOrV e e2 env S = bnd (mTest e env S) fun b S1 => if b = true then some (.bl true, S1) else e2 env S1 := nr rfl
@[simp] theorem s_notV : mNotV e env S = bnd (mTest e env S) fun b S1 => some (.bl (!b), S1) := nr rfl
@[simp] theorem s_bin : mBin g e e2 env S = bnd (e env S) fun x S1 => bnd (e2 env S1) fun y S2 => g x y S2 := nr rfl
@[simp] theorem s_un : mUn f e env S = bnd (e env S) fun x S1 => f x S1 := nr rfl
@[simp] theorem s_var (i : Nat) : mVar i env S = match env[i]? with | some (some d) => some (d, S) | _ => none := nr rfl
@[simp] theorem s_c : mC d env S = some (d, S) := nr rfl
@[simp] theorem s_nil : mNil env S = some ([], S) := nr rfl
@[simp] theorem s_cons : mCons e ms env S = bnd (e env S) fun d S1 => bnd (ms env S1) fun ds S2 => some (d :: ds, S2) := nr rfl
@[simp] theorem s_tup : mTup ms env S = bnd (ms env S) fun ds S1 => if ds.length ≤ sizeLine then some (.tup ds, S1) else none := nr rfl
@[simp] theorem s_fro : mFro ms env S = bnd (ms env S) fun ds S1 => if ds.length ≤ sizeLine then some (.fro ds, S1) else none := nr rfl
@[simp] theorem s_lst : mLst ms env S = bnd (ms env S) fun ds S1 => if ds.length ≤ sizeLine then some (.ref S1.length, S1 ++ [.lst ds]) else none := nr rfl
@[simp] theorem s_call : mCall c ms env S = bnd (ms env S) fun ds S1 => c ds S1 := nr rfl
@[simp] theorem s_if : mIf t e e2 env S = bnd (t env S) fun b S1 => if b = true then e env S1 else e2 env S1 := nr rfl
@[simp] theorem s_no : mNo env S = some (none, S) := nr rfl
@[simp] theorem s_part : mPart e env S = bnd (e env S) fun d S1 => match d with
  | .int i => some (some i, S1)
  | _ => none := nr rfl
@[simp] theorem s_sl : mSl sl e o1 o2 env S = bnd (e env S) fun d S1 => bnd (o1 env S1) fun lo S2 => bnd (o2 env S2) fun hi S3 => sl d lo hi S3 := nr rfl
@[simp] theorem s_rev (k : Bool) : mRev k e env S = bnd (e env S) fun d S1 => (lstOf S1 d).map fun l => mk k l.reverse S1 := nr rfl
@[simp] theorem s_meth (T : String) (h : MMt) : mMeth T h e ms env S = bnd (e env S) fun a S1 => if tyD T S1 a = true then bnd (ms env S1) fun as S2 => h a as S2 else none := nr rfl
@[simp] theorem s_chain : mChain g g2 e e2 e3 env S = bnd (e env S) fun x S1 => bnd (e2 env S1) fun y S2 => bnd (g x y S2) fun z S3 => match z with
  | .bl k => if k = true then bnd (e3 env S3) fun w S4 => g2 y w S4 else some (.bl false, S3)
  | _ => none := nr rfl
@[simp] theorem s_tru : mTru e env S = bnd (e env S) fun d S1 => (truD S1 d).map fun b => (b, S1) := nr rfl
@[simp] theorem s_gn (i : Nat) : gN i d env S = some (env.set i (some d), S) := nr rfl
@[simp] theorem s_gt (k : Nat) (l : List Val) : gT k mgs (.tup l) env S = if l.length = k then mgs l env S else none := nr rfl
@[simp] theorem s_gnil : gNil' [] env S = some (env, S) := nr rfl
@[simp] theorem s_gcons (ds : List Val) : gCons' mg mgs (d :: ds) env S = bnd (mg d env S) fun e S1 => mgs ds e S1 := nr rfl
@[simp] theorem s_gix : gIx e e2 d env S = bnd (e env S) fun o S1 => bnd (e2 env S1) fun i S2 => match o, i with
  | .ref k, .int j => match S2[k]? with
    | some (.lst l) => (ixN l.length j).map fun n => (env, S2.set k (.lst (l.set n d)))
    | _ => none
  | _, _ => none := nr rfl
@[simp] theorem s_items : mItems e env S = bnd (e env S) fun d S1 => match d with
  | .tup l => some (l, S1)
  | .str z => some (signs z, S1)
  | d => (froOf d).map fun l => (l, S1) := nr rfl
@[simp] theorem s_for (mi : MA) : mFor mi mg m env S = bnd (mi env S) fun items S1 => forL mg m items env S1 := nr rfl
@[simp] theorem s_kw (ix : List Nat) : mKw ix ms ms2 env S = bnd (ms env S) fun ds S1 => bnd (ms2 env S1) fun es S2 => some (pick ix (ds ++ es), S2) := nr rfl
@[simp] theorem s_repl (y z : Str) : mRepl y z e env S = bnd (e env S) fun d S1 => match d with
  | .str x => if x.length + (x.length + 1) * z.length ≤ 16777216 then some (.str (Txt.replace x y z), S1) else none
  | _ => none := nr rfl
@[simp] theorem s_lc (k : Bool) (vs : List Nat) (mi : MA) : mLc k vs mi mg t e env S = bnd (mi env S) fun items S1 => bnd (lcL mg t e (wipeE env vs) items S1) fun ds S2 => if ds.length ≤ sizeLine then some (mk k ds S2) else none := nr rfl
theorem wh_s (k : Nat) : whN t m (k + 1) env S = bnd (t env S) fun q S1 => if q = true then bnd (m env S1) fun o S2 => match o with
    | .nx e => whN t m k e S2
    | .ct e => whN t m k e S2
    | .bk e => some (.nx e, S2)
    | .rt d => some (.rt d, S2)
    else some (.nx env, S1) := nr rfl
theorem for_nil : forL mg m [] env S = some (.nx env, S) := nr rfl
theorem for_cons (x : Val) (xs : List Val) : forL mg m (x :: xs) env S = bnd (mg x env S) fun env1 S1 => bnd (m env1 S1) fun o S2 => match o with
    | .nx e => forL mg m xs e S2
    | .ct e => forL mg m xs e S2
    | .bk e => some (.nx e, S2)
    | .rt d => some (.rt d, S2) := nr rfl
theorem lc_nil : lcL mg t e env [] S = some ([], S) := nr rfl
theorem lc_cons (x : Val) (xs : List Val) : lcL mg t e env (x :: xs) S = bnd (mg x env S) fun env1 S1 => bnd (t env1 S1) fun b S2 =>
    if b = true then bnd (e env1 S2) fun d S3 => bnd (lcL mg t e env xs S3) fun ds S4 => some (d :: ds, S4) else lcL mg t e env xs S2 := nr rfl
-- values
variable (i j : Int) (x y : Str) (l : List Val)
@[simp] theorem v_addI : vAdd (.int i) (.int j) S = some (.int (i + j), S) := nr rfl
@[simp] theorem v_addS : vAdd (.str x) (.str y) S = if x.length + y.length ≤ sizeLine then some (.str (x ++ y), S) else none := nr rfl
@[simp] theorem v_sub : vSub (.int i) (.int j) S = some (.int (i - j), S) := nr rfl
@[simp] theorem v_mul : vMul (.int i) (.int j) S = if CMul i j then some (.int (i * j), S) else none := nr rfl
theorem v_mulS (n : Nat) (h : 2 ≤ n) (h2 : n < 1000000) (hx : 1 ≤ x.length) (hx2 : x.length * n ≤ sizeLine) : vMul (.str x) (.int (n : Int)) S = some (.str (repS x n), S) := by
  show (if _ then _ else _) = _
  rw [if_pos (by refine ⟨by omega, by omega, hx, ?_⟩; rw [Int.toNat_natCast]; exact hx2), Int.toNat_natCast]
@[simp] theorem v_mod : vMod (.int i) (.int j) S = if j ≠ 0 then some (.int (i.fmod j), S) else none := by
  show ((if j ≠ 0 then some (Val.int (i.fmod j)) else none).map fun d => (d, S)) = _
  split <;> rfl
@[simp] theorem v_div : vDiv (.int i) (.int j) S = if CDivN i j then some (.int (i.fdiv j), S) else none := by
  show ((if CDivN i j then some (Val.int (i.fdiv j)) else none).map fun d => (d, S)) = _
  split <;> rfl
@[simp] theorem v_pow : vPow (.int i) (.int j) S = if CPow i j then some (.int (i ^ j.toNat), S) else none := by
  show ((if CPow i j then some (Val.int (i ^ j.toNat)) else none).map fun d => (d, S)) = _
  split <;> rfl
@[simp] theorem v_ltI : vLt (.int i) (.int j) S = some (.bl (decide (i < j)), S) := nr rfl
@[simp] theorem v_leI : vLe (.int i) (.int j) S = some (.bl (decide (i ≤ j)), S) := nr rfl
@[simp] theorem v_gtI : vGt (.int i) (.int j) S = some (.bl (decide (j < i)), S) := nr rfl
@[simp] theorem v_geI : vGe (.int i) (.int j) S = some (.bl (decide (j ≤ i)), S) := nr rfl
@[simp] theorem v_leS : vLe (.str x) (.str y) S = some (.bl (!decide (y.cps.toList < x.cps.toList)), S) := nr rfl
@[simp] theorem v_eqI (k : Bool) : vEqN k (.int i) (.int j) S = some (.bl (if k then !decide (i = j) else decide (i = j)), S) := nr rfl
@[simp] theorem v_eqS (k : Bool) : vEqN k (.str x) (.str y) S = some (.bl (if k then !decide (x = y) else decide (x = y)), S) := nr rfl
@[simp] theorem v_neg : vNeg (.int i) S = some (.int (-i), S) := nr rfl
@[simp] theorem v_ixS (k : Nat) : vIx (.str x) (.int (k : Int)) S = if x.length ≤ sizeLine then (x.cps.toList[k]?).map fun c => (.str ⟨#[c]⟩, S) else none := by rw [← atI_nat]; rfl
@[simp] theorem v_ixT (k : Nat) : vIx (.tup l) (.int (k : Int)) S = (l[k]?).map fun d => (d, S) := by rw [← atI_nat]; rfl
@[simp] theorem v_ixF (k : Nat) : vIx (.fro l) (.int (k : Int)) S = (l[k]?).map fun d => (d, S) := by rw [← atI_nat]; rfl
@[simp] theorem v_ixR (k r : Nat) : vIx (.ref r) (.int (k : Int)) S = (lstOf S (.ref r)).bind fun l => (l[k]?).map fun d => (d, S) := by simp only [← atI_nat]; rfl
@[simp] theorem v_ixT0 : vIx (.tup l) (.int 0) S = (l[0]?).map fun d => (d, S) := v_ixT S l 0
@[simp] theorem v_ixT1 : vIx (.tup l) (.int 1) S = (l[1]?).map fun d => (d, S) := v_ixT S l 1
@[simp] theorem v_ixT2 : vIx (.tup l) (.int 2) S = (l[2]?).map fun d => (d, S) := v_ixT S l 2
@[simp] theorem v_ixT3 : vIx (.tup l) (.int 3) S = (l[3]?).map fun d => (d, S) := v_ixT S l 3
@[simp] theorem v_ixR0 (r : Nat) : vIx (.ref r) (.int 0) S = (lstOf S (.ref r)).bind fun l => (l[0]?).map fun d => (d, S) := v_ixR S 0 r
@[simp] theorem v_ixR1 (r : Nat) : vIx (.ref r) (.int 1) S = (lstOf S (.ref r)).bind fun l => (l[1]?).map fun d => (d, S) := v_ixR S 1 r
@[simp] theorem v_slS (k k2 : Nat) (h : Bool) : vSl h (.str x) (some (k : Int)) (some (k2 : Int)) S = if x.length ≤ sizeLine then some (.str (sL ((x.cps.toList.drop k).take (k2 - k))), S) else none := by rw [← cutS_nat]; rfl
@[simp] theorem v_slT (h : Bool) (lo hi : Option Int) : vSl h (.tup l) lo hi S = some (.tup (cutD l lo hi), S) := nr rfl
@[simp] theorem v_lenS : vLen [.str x] S = if x.length ≤ sizeLine then some (.int (x.cps.toList.length : Nat), S) else none := by rw [← len_cps]; rfl
@[simp] theorem v_lenT : vLen [.tup l] S = some (.int (l.length : Nat), S) := nr rfl
@[simp] theorem v_lenF : vLen [.fro l] S = some (.int (l.length : Nat), S) := nr rfl
@[simp] theorem v_lenC : vLen [.scr l] S = some (.int (l.length : Nat), S) := nr rfl
@[simp] theorem v_absI : vAbs [.int i] S = some (.int (if i < 0 then -i else i), S) := nr rfl
@[simp] theorem v_intI : vInt [.int i] S = some (.int i, S) := nr rfl
@[simp] theorem v_intB (k : Bool) : vInt [.bl k] S = some (.int (if k then 1 else 0), S) := nr rfl
@[simp] theorem v_tupT : vTuple [.tup l] S = some (.tup l, S) := nr rfl
@[simp] theorem v_tupR (r : Nat) : vTuple [.ref r] S = (lstOf S (.ref r)).map fun l => (.tup l, S) := nr rfl
@[simp] theorem lst_ref (r : Nat) : lstOf S (.ref r) = match S[r]? with
    | some (.lst l) => some l
    | _ => none := nr rfl
@[simp] theorem lst_fro : lstOf S (.fro l) = some l := nr rfl
@[simp] theorem lst_scr : lstOf S (.scr l) = some l := nr rfl
@[simp] theorem v_app (r : Nat) : vAppend (.ref r) [d] S = match S[r]? with
    | some (.lst l) => if l.length < sizeLine then some (.non, S.set r (.lst (l ++ [d]))) else none
    | _ => none := nr rfl
@[simp] theorem v_pop (r : Nat) : vPop (.ref r) [] S = match S[r]? with
    | some (.lst l) => (l[l.length - 1]?).map fun d => (d, S.set r (.lst l.dropLast))
    | _ => none := nr rfl
@[simp] theorem v_inS (k : Bool) (c : Nat) : vIn k (.str ⟨#[c]⟩) (.str y) S = some (.bl (if k then !decide (c ∈ y.cps.toList) else decide (c ∈ y.cps.toList)), S) := nr rfl
@[simp] theorem v_inT (k : Bool) : vIn k (.str x) (.tup l) S = if (flatD (.str x) && l.all flatD) = true then some (.bl (if k then !inD (.str x) l else inD (.str x) l), S) else none := nr rfl
@[simp] theorem ty_list (r : Nat) : tyD "list" S (.ref r) = (lstOf S (.ref r)).isSome := by show ((lstOf S (.ref r)).isSome && _) = _; simp
@[simp] theorem ty_str : tyD "str" S (.str x) = true := nr rfl
@[simp] theorem v_slC (h : Bool) (lo hi : Option Int) : vSl h (.scr l) lo hi S = some (mk h (cutD l lo hi) S) := nr rfl
@[simp] theorem v_slF (h : Bool) (lo hi : Option Int) : vSl h (.fro l) lo hi S = some (mk h (cutD l lo hi) S) := nr rfl
@[simp] theorem fro_f : froOf (.fro l) = some l := nr rfl
@[simp] theorem fro_s : froOf (.scr l) = some l := nr rfl
theorem v_ixL (r : Nat) (hl : l ≠ []) (h : S[r]? = some (.lst l)) : vIx (.ref r) (.int (-1)) S = l.getLast?.map fun d => (d, S) := by
  rw [← atI_last l hl]
  show (lstOf S (.ref r)).bind _ = _
  rw [lst_ref, h]
  rfl
end
theorem cutD_60 (l : List Val) : cutD l none (some 60) = l.take 60 := cutD_to l 60
theorem cmul2 (x : Int) : CMul 2 x := .inl (by decide)
theorem toPyL_ints : ∀ xs : List Int, toPyL (xs.map Val.int) = some (xs.map PyData.int)
  | [] => by rw [List.map_nil, toPyL]; rfl
  | x :: xs => by
    rw [List.map_cons, toPyL, toPyL_ints xs]
    unfold toPy
    rfl
theorem shaped_ints (xs : List Int) : SeqAt.shaped (.list (xs.map PyData.int)) = true := by
  have h1 : ∀ xs : List Int, PyData.canLayAll0 (xs.map PyData.int) = true := fun xs => by
    induction xs with
    | nil => rfl
    | cons x xs ih => rw [List.map_cons, PyData.canLayAll0, ih]; rfl
  have h2 : ∀ xs : List Int, PyData.depthAll (xs.map PyData.int) = 0 := fun xs => by
    induction xs with
    | nil => rfl
    | cons x xs ih => rw [List.map_cons, PyData.depthAll, ih]; rfl
  unfold SeqAt.shaped
  rw [PyData.canLay0, h1, PyData.depth, h2]
  rfl
theorem v_nil {S : Store} {r : Nat} {xs : List Int} (k : Bool) (h : S[r]? = some (.lst (xs.map Val.int))) : vEqN k (.ref r) (.fro []) S = some (.bl (if k then !xs.isEmpty else xs.isEmpty), S) := by
  show (pyOf S (.ref r)).bind _ = _
  have e1 : pyOf S (.ref r) = some (.list (xs.map PyData.int)) := by
    have e0 : topV S (.ref r) = .fro (xs.map Val.int) := by
      show (match S[r]? with | some (.lst l) => Val.fro l | _ => .ref r) = _
      rw [h]
    unfold pyOf
    rw [e0]
    unfold toPy
    rw [toPyL_ints]
    rfl
  have e2 : pyOf S (.fro []) = some (.list []) := by
    unfold pyOf topV toPy toPyL
    rfl
  rw [e1, e2]
  show (if (SeqAt.shaped _ && SeqAt.shaped _) = true then _ else _) = _
  rw [shaped_ints, if_pos (by exact shaped_ints [])]
  have e3 : PyData.eqv (.list (xs.map PyData.int)) (.list []) = xs.isEmpty := by
    rw [PyData.eqv]
    cases xs <;> rfl
  rw [e3]
theorem pw62 : (2 : Int) ^ 62 = 4611686018427387904 := by decide
theorem in62 {m : Nat} (hm : m ≤ 1000000) : -(2 ^ 62 : Int) ≤ (m : Int) ∧ (m : Int) < 2 ^ 62 := by rw [pw62]; omega
theorem if62 {α : Type} {m : Nat} (hm : -(2 ^ 62 : Int) ≤ (m : Int) ∧ (m : Int) < 2 ^ 62) (x : α) : (if -(2 ^ 62 : Int) ≤ (m : Int) ∧ (m : Int) < 2 ^ 62 then some x else none) = some x := by rw [if_pos hm]
theorem rng1_if (ms : MA) (env S S') (j : Int) (h : ms env S = some ([.int j], S')) : mRng1 ms env S = if -(2 ^ 62) ≤ j ∧ j < 2 ^ 62 then some (rangeV 0 j.toNat, S') else none := by
  unfold mRng1
  rw [h, bnd_ok]
theorem rng1_of {ms : MA} {env S S'} {m : Nat} (hm : m ≤ 1000000) (h : ms env S = some ([.int (m : Int)], S')) : mRng1 ms env S = some (rangeV 0 m, S') := by
  rw [rng1_if _ _ _ _ _ h, if62 (in62 hm), Int.toNat_natCast]
theorem sign_sL (c : Nat) : (⟨#[c]⟩ : Str) = sL [c] := nr rfl
theorem startE_eq (N : List Str) (ds : List Val) : startE N ds = ds.map some ++ List.replicate (N.length - ds.length) none := nr rfl
end Fx
namespace T5
open PySem PySem.Spec PyProof.Rows L2 Fx
def topS (i : Nat) : Stmt := PySem.Challenge.pw_heldalways_k05_marks_of_texts.main.body.getD i (.Pass ⟨0, 0, 0, 0⟩)
def k_DIGITS : Val := .str (Str.ofString "0123456789")
def k_DOUBLE : Val := .tup [.str (Str.ofString ">="), .str (Str.ofString "<=")]
def k_LETTERS : Val := .str (Str.ofString "abcdefghijklmnopqrstuvwxyz")
/-- what the top has written -/
structure Top (K : Frg) (mg : Str → Option Value) : Prop where
  z_abs : mg "abs" = none
  z_int : mg "int" = none
  z_len : mg "len" = none
  z_range : mg "range" = none
  z_repr : mg "repr" = none
  z_tuple : mg "tuple" = none
  c_DIGITS : GC K mg "DIGITS" k_DIGITS
  c_DOUBLE : GC K mg "DOUBLE" k_DOUBLE
  c_LETTERS : GC K mg "LETTERS" k_LETTERS
  d_run_end : Df K mg "run_end" (topS 4)
  d_mark_at : Df K mg "mark_at" (topS 5)
  d_marks_in : Df K mg "marks_in" (topS 6)
  d__law_heap : Df K mg "_law_heap" (topS 8)
  d__law_draw : Df K mg "_law_draw" (topS 9)
  d__law_pick : Df K mg "_law_pick" (topS 10)
  d__law_marks : Df K mg "_law_marks" (topS 11)
  d__law_string : Df K mg "_law_string" (topS 12)
  d_law : Df K mg "law" (topS 13)
abbrev N_run_end : List Str := ["text", "at", "signs"]
theorem sc_run_end : FnScope N_run_end ["text", "at", "signs"] (defScope (topS 4)) := ⟨rfl, rfl, rfl, by decide +kernel, rfl, by decide +kernel, by decide +kernel⟩
noncomputable def m_run_end : MS := mThen (mWhile (mAnd (mTest (mBin vLt (mVar 1) (mCall vLen (mCons (mVar 0) (mNil))))) (mTest (mBin (vIn false) (mBin vIx (mVar 0) (mVar 1)) (mVar 2)))) (mSet (mBin vAdd (mVar 1) (mC (.int 1))) (gN 1)))
 (mRet (mVar 1))
noncomputable def M_run_end : MCall := genM 0 8 N_run_end m_run_end
abbrev N_mark_at : List Str := ["text", "at"]
theorem sc_mark_at : FnScope N_mark_at ["text", "at"] (defScope (topS 5)) := ⟨rfl, rfl, rfl, by decide +kernel, rfl, by decide +kernel, by decide +kernel⟩
noncomputable def m_mark_at : MS := mThen (mWhen (mTest (mBin (vIn false) (mBin vIx (mVar 0) (mVar 1)) (mC k_LETTERS))) (mRet (mSl (vSl false) (mVar 0) (mPart (mVar 1)) (mPart (mCall M_run_end (mCons (mVar 0) (mCons (mVar 1) (mCons (mC k_LETTERS) (mNil)))))))) (mSkip))
 (mThen (mWhen (mTest (mBin (vIn false) (mBin vIx (mVar 0) (mVar 1)) (mC k_DIGITS))) (mRet (mSl (vSl false) (mVar 0) (mPart (mVar 1)) (mPart (mCall M_run_end (mCons (mVar 0) (mCons (mVar 1) (mCons (mC k_DIGITS) (mNil)))))))) (mSkip))
 (mRet (mIf (mTest (mBin (vIn false) (mSl (vSl false) (mVar 0) (mPart (mVar 1)) (mPart (mBin vAdd (mVar 1) (mC (.int 2))))) (mC k_DOUBLE))) (mSl (vSl false) (mVar 0) (mPart (mVar 1)) (mPart (mBin vAdd (mVar 1) (mC (.int 2))))) (mBin vIx (mVar 0) (mVar 1)))))
noncomputable def M_mark_at : MCall := genM 0 8 N_mark_at m_mark_at
abbrev N_marks_in : List Str := ["text", "found", "line", "start", "at", "mark"]
theorem sc_marks_in : FnScope N_marks_in ["text"] (defScope (topS 6)) := ⟨rfl, rfl, rfl, by decide +kernel, rfl, by decide +kernel, by decide +kernel⟩
noncomputable def m_marks_in : MS := mThen (mSet (mTup (mCons (mLst (mNil)) (mCons (mC (.int 0)) (mCons (mC (.int 0)) (mCons (mC (.int 0)) (mNil)))))) (gT 4 (gCons' (gN 1) (gCons' (gN 2) (gCons' (gN 3) (gCons' (gN 4) (gNil')))))))
 (mThen (mWhile (mTest (mBin vLt (mVar 4) (mCall vLen (mCons (mVar 0) (mNil))))) (mThen (mSet (mCall M_mark_at (mCons (mVar 0) (mCons (mVar 4) (mNil)))) (gN 5))
 (mThen (mWhen (mTest (mBin vNe (mVar 5) (mC (.str (Str.ofString " "))))) (mDo (mMeth "list" vAppend (mVar 1) (mCons (mTup (mCons (mVar 2) (mCons (mBin vSub (mVar 4) (mVar 3)) (mCons (mVar 5) (mNil))))) (mNil)))) (mSkip))
 (mThen (mSet (mBin vAdd (mVar 4) (mCall vLen (mCons (mVar 5) (mNil)))) (gN 4))
 (mWhen (mTest (mBin vEq (mVar 5) (mC (.str (Str.ofString "\n"))))) (mPar 2 3 (mCons (mBin vAdd (mVar 2) (mC (.int 1))) (mCons (mVar 4) (mNil)))) (mSkip))))))
 (mRet (mCall vTuple (mCons (mVar 1) (mNil)))))
noncomputable def M_marks_in : MCall := genM 0 8 N_marks_in m_marks_in
abbrev N__law_heap : List Str := ["script", "cell", "cells", "stir"]
theorem sc__law_heap : FnScope N__law_heap ["script"] (defScope (topS 8)) := ⟨rfl, rfl, rfl, by decide +kernel, rfl, by decide +kernel, by decide +kernel⟩
noncomputable def m__law_heap : MS := mThen (mPar 2 3 (mCons (mLc false [1] (mItems (mSl (vSl false) (mVar 0) (mNo) (mPart (mC (.int 60))))) (gN 1) (mYes) (mBin vAdd (mBin vMul (mC (.int 2)) (mCall vAbs (mCons (mVar 1) (mNil)))) (mCall vInt (mCons (mBin vLt (mVar 1) (mC (.int 0))) (mNil))))) (mCons (mC (.int 70501)) (mNil))))
 (mThen (mFor (mItems (mVar 2)) (gN 1) (mSet (mBin vMod (mCall vInt (mCons (mBin vAdd (mBin vAdd (mBin vMul (mVar 3) (mC (.int 69621))) (mBin vMod (mCall vInt (mCons (mVar 1) (mNil))) (mC (.int 2147483563)))) (mC (.int 29))) (mNil))) (mC (.int 2147483647))) (gN 3)))
 (mRet (mLst (mCons (mRev true (mLc false [1] (mItems (mVar 2)) (gN 1) (mTest (mBin vGe (mVar 1) (mBin vPow (mC (.int 10)) (mC (.int 18))))) (mVar 1))) (mCons (mVar 3) (mNil))))))
noncomputable def M__law_heap : MCall := genM 2 8 N__law_heap m__law_heap
abbrev N__law_draw : List Str := ["heap", "many", "rest"]
theorem sc__law_draw : FnScope N__law_draw ["heap", "many"] (defScope (topS 9)) := ⟨rfl, rfl, rfl, by decide +kernel, rfl, by decide +kernel, by decide +kernel⟩
noncomputable def m__law_draw : MS := mThen (mWhile (mAnd (mTest (mBin vNe (mBin vIx (mVar 0) (mC (.int 0))) (mFro (mNil)))) (mTest (mBin vEq (mBin vIx (mBin vIx (mVar 0) (mC (.int 0))) (mUn vNeg (mC (.int 1)))) (mC (.int 0))))) (mDo (mMeth "list" vPop (mBin vIx (mVar 0) (mC (.int 0))) mNil)))
 (mThen (mWhen (mTest (mBin vNe (mBin vIx (mVar 0) (mC (.int 0))) (mFro (mNil)))) (mThen (mSet (mMeth "list" vPop (mBin vIx (mVar 0) (mC (.int 0))) mNil) (gN 2))
 (mThen (mDo (mMeth "list" vAppend (mBin vIx (mVar 0) (mC (.int 0))) (mCons (mBin vDiv (mVar 2) (mVar 1)) (mNil))))
 (mRet (mBin vMod (mCall vInt (mCons (mVar 2) (mNil))) (mVar 1))))) (mSkip))
 (mThen (mSet (mBin vMod (mCall vInt (mCons (mBin vAdd (mBin vMul (mBin vIx (mVar 0) (mC (.int 1))) (mC (.int 48271))) (mC (.int 17))) (mNil))) (mC (.int 2147483647))) (gIx (mVar 0) (mC (.int 1))))
 (mRet (mBin vMod (mCall vInt (mCons (mBin vDiv (mBin vIx (mVar 0) (mC (.int 1))) (mC (.int 32))) (mNil))) (mVar 1)))))
noncomputable def M__law_draw : MCall := genM 0 8 N__law_draw m__law_draw
abbrev N__law_pick : List Str := ["heap", "some"]
theorem sc__law_pick : FnScope N__law_pick ["heap", "some"] (defScope (topS 10)) := ⟨rfl, rfl, rfl, by decide +kernel, rfl, by decide +kernel, by decide +kernel⟩
noncomputable def m__law_pick : MS := mRet (mBin vIx (mVar 1) (mCall M__law_draw (mCons (mVar 0) (mCons (mCall vLen (mCons (mVar 1) (mNil))) (mNil)))))
noncomputable def M__law_pick : MCall := genM 0 8 N__law_pick m__law_pick
abbrev N__law_marks : List Str := ["text", "found", "line", "begin", "at", "end"]
theorem sc__law_marks : FnScope N__law_marks ["text"] (defScope (topS 11)) := ⟨rfl, rfl, rfl, by decide +kernel, rfl, by decide +kernel, by decide +kernel⟩
noncomputable def m__law_marks : MS := mThen (mSet (mTup (mCons (mLst (mNil)) (mCons (mC (.int 0)) (mCons (mC (.int 0)) (mCons (mC (.int 0)) (mNil)))))) (gT 4 (gCons' (gN 1) (gCons' (gN 2) (gCons' (gN 3) (gCons' (gN 4) (gNil')))))))
 (mThen (mWhile (mTest (mBin vLt (mVar 4) (mCall vLen (mCons (mVar 0) (mNil))))) (mThen (mSet (mBin vAdd (mVar 4) (mC (.int 1))) (gN 5))
 (mThen (mWhen (mTest (mChain vLe vLe (mC (.str (Str.ofString "a"))) (mBin vIx (mVar 0) (mVar 4)) (mC (.str (Str.ofString "z"))))) (mWhile (mAnd (mTest (mBin vLt (mVar 5) (mCall vLen (mCons (mVar 0) (mNil))))) (mTest (mChain vLe vLe (mC (.str (Str.ofString "a"))) (mBin vIx (mVar 0) (mVar 5)) (mC (.str (Str.ofString "z")))))) (mSet (mBin vAdd (mVar 5) (mC (.int 1))) (gN 5))) (mWhen (mTest (mChain vLe vLe (mC (.str (Str.ofString "0"))) (mBin vIx (mVar 0) (mVar 4)) (mC (.str (Str.ofString "9"))))) (mWhile (mAnd (mTest (mBin vLt (mVar 5) (mCall vLen (mCons (mVar 0) (mNil))))) (mTest (mChain vLe vLe (mC (.str (Str.ofString "0"))) (mBin vIx (mVar 0) (mVar 5)) (mC (.str (Str.ofString "9")))))) (mSet (mBin vAdd (mVar 5) (mC (.int 1))) (gN 5))) (mWhen (mAnd (mTest (mBin (vIn false) (mBin vIx (mVar 0) (mVar 4)) (mC (.str (Str.ofString "<>"))))) (mTest (mBin vEq (mSl (vSl false) (mVar 0) (mPart (mVar 5)) (mPart (mBin vAdd (mVar 5) (mC (.int 1))))) (mC (.str (Str.ofString "=")))))) (mSet (mBin vAdd (mVar 5) (mC (.int 1))) (gN 5)) (mSkip))))
 (mThen (mWhen (mTest (mBin vNe (mBin vIx (mVar 0) (mVar 4)) (mC (.str (Str.ofString " "))))) (mDo (mMeth "list" vAppend (mVar 1) (mCons (mTup (mCons (mVar 2) (mCons (mBin vSub (mVar 4) (mVar 3)) (mCons (mSl (vSl false) (mVar 0) (mPart (mVar 4)) (mPart (mVar 5))) (mNil))))) (mNil)))) (mSkip))
 (mThen (mWhen (mTest (mBin vEq (mBin vIx (mVar 0) (mVar 4)) (mC (.str (Str.ofString "\n"))))) (mPar 2 3 (mCons (mBin vAdd (mVar 2) (mC (.int 1))) (mCons (mVar 5) (mNil)))) (mSkip))
 (mSet (mVar 5) (gN 4)))))))
 (mRet (mCall vTuple (mCons (mVar 1) (mNil)))))
noncomputable def M__law_marks : MCall := genM 0 8 N__law_marks m__law_marks
abbrev N__law_string : List Str := ["heap", "many", "signs", "text", "turn", "way"]
theorem sc__law_string : FnScope N__law_string ["heap", "many"] (defScope (topS 12)) := ⟨rfl, rfl, rfl, by decide +kernel, rfl, by decide +kernel, by decide +kernel⟩
noncomputable def m__law_string : MS := mThen (mSet (mTup (mCons (mC (.str (Str.ofString " !\"#$&'()*+,-./0123456789:;<=>?@ABCXYZ[]^_`abcdefghijklmnopqrstuvwxyz{|}~"))) (mCons (mC (.str (Str.ofString ""))) (mNil)))) (gT 2 (gCons' (gN 2) (gCons' (gN 3) (gNil')))))
 (mThen (mFor (mRng1 (mCons (mVar 1) (mNil))) (gN 4) (mThen (mSet (mCall M__law_draw (mCons (mVar 0) (mCons (mC (.int 9)) (mNil)))) (gN 5))
 (mWhen (mTest (mBin vLt (mVar 5) (mC (.int 3)))) (mSet (mBin vAdd (mVar 3) (mCall M__law_pick (mCons (mVar 0) (mCons (mVar 2) (mNil))))) (gN 3)) (mWhen (mTest (mBin vLt (mVar 5) (mC (.int 7)))) (mSet (mBin vAdd (mVar 3) (mCall M__law_pick (mCons (mVar 0) (mCons (mFro (mCons (mC (.str (Str.ofString "ab"))) (mCons (mC (.str (Str.ofString "z"))) (mCons (mC (.str (Str.ofString "10"))) (mCons (mC (.str (Str.ofString "007"))) (mCons (mC (.str (Str.ofString "<"))) (mCons (mC (.str (Str.ofString ">"))) (mCons (mC (.str (Str.ofString "="))) (mCons (mC (.str (Str.ofString ">="))) (mCons (mC (.str (Str.ofString "<="))) (mCons (mC (.str (Str.ofString "\n"))) (mCons (mC (.str (Str.ofString " "))) (mCons (mC (.str (Str.ofString "  "))) (mCons (mC (.str (Str.ofString "\n\n"))) (mCons (mC (.str (Str.ofString "'"))) (mCons (mC (.str (Str.ofString "q9"))) (mNil))))))))))))))))) (mNil))))) (gN 3)) (mSet (mBin vAdd (mVar 3) (mCall M__law_pick (mCons (mVar 0) (mCons (mFro (mCons (mC (.str (Str.ofString "level"))) (mCons (mC (.str (Str.ofString "a"))) (mCons (mC (.str (Str.ofString "0"))) (mCons (mC (.str (Str.ofString "5"))) (mCons (mC (.str (Str.ofString "\n "))) (mCons (mC (.str (Str.ofString " \n"))) (mCons (mC (.str (Str.ofString "=<"))) (mCons (mC (.str (Str.ofString "=>"))) (mCons (mC (.str (Str.ofString "<<="))) (mCons (mC (.str (Str.ofString ">=="))) (mNil)))))))))))) (mNil))))) (gN 3))))))
 (mRet (mVar 3)))
noncomputable def M__law_string : MCall := genM 0 8 N__law_string m__law_string
abbrev N_law : List Str := ["script", "heap", "turn", "text", "due", "long", "mark"]
theorem sc_law : FnScope N_law ["script"] (defScope (topS 13)) := ⟨rfl, rfl, rfl, by decide +kernel, rfl, by decide +kernel, by decide +kernel⟩
noncomputable def m_law : MS := mThen (mSet (mCall M__law_heap (mCons (mVar 0) (mNil))) (gN 1))
 (mThen (mFor (mRng1 (mCons (mBin vAdd (mC (.int 4)) (mCall vInt (mCons (mBin vGt (mCall vLen (mCons (mVar 0) (mNil))) (mC (.int 1))) (mNil)))) (mNil))) (gN 2) (mThen (mSet (mCall M__law_string (mCons (mVar 1) (mCons (mCall M__law_pick (mCons (mVar 1) (mCons (mFro (mCons (mC (.int 9)) (mCons (mC (.int 25)) (mCons (mC (.int 3)) (mCons (mC (.int 40)) (mCons (mC (.int 0)) (mCons (mC (.int 1)) (mNil)))))))) (mNil)))) (mNil)))) (gN 3))
 (mThen (mSet (mCall M__law_marks (mCons (mVar 3) (mNil))) (gN 4))
 (mThen (mWhen (mOr (mTest (mBin vNe (mCall vRepr (mCons (mCall M_marks_in (mCons (mVar 3) (mNil))) (mNil))) (mCall vRepr (mCons (mVar 4) (mNil))))) (mTest (mBin vNe (mCall vRepr (mCons (mCall M_marks_in (mKw [0] mNil (mCons (mVar 3) (mNil)))) (mNil))) (mCall vRepr (mCons (mVar 4) (mNil)))))) (mRet (mC (.bl false))) (mSkip))
 (mWhen (mTest (mBin vNe (mMeth "str" vJoin (mC (.str (Str.ofString ""))) (mCons (mLc false [6] (mItems (mVar 4)) (gN 6) (mYes) (mBin vIx (mVar 6) (mC (.int 2)))) mNil)) (mRepl (Str.ofString " ") (Str.ofString "") (mVar 3)))) (mRet (mC (.bl false))) (mSkip))))))
 (mThen (mSet (mBin vAdd (mBin vAdd (mBin vAdd (mBin vAdd (mBin vMul (mC (.str (Str.ofString "a"))) (mC (.int 300))) (mBin vMul (mC (.str (Str.ofString "9"))) (mC (.int 300)))) (mBin vMul (mC (.str (Str.ofString "\n"))) (mC (.int 30)))) (mBin vMul (mC (.str (Str.ofString "<"))) (mC (.int 7)))) (mC (.str (Str.ofString "=")))) (gN 5))
 (mThen (mWhen (mOr (mTest (mBin vNe (mBin vIx (mCall M_marks_in (mCons (mVar 5) (mNil))) (mUn vNeg (mC (.int 1)))) (mTup (mCons (mC (.int 30)) (mCons (mC (.int 6)) (mCons (mC (.str (Str.ofString "<="))) (mNil))))))) (mTest (mBin vNe (mSl (vSl false) (mCall M_marks_in (mCons (mVar 5) (mNil))) (mNo) (mPart (mC (.int 2)))) (mTup (mCons (mTup (mCons (mC (.int 0)) (mCons (mC (.int 0)) (mCons (mBin vMul (mC (.str (Str.ofString "a"))) (mC (.int 300))) (mNil))))) (mCons (mTup (mCons (mC (.int 0)) (mCons (mC (.int 300)) (mCons (mBin vMul (mC (.str (Str.ofString "9"))) (mC (.int 300))) (mNil))))) (mNil))))))) (mRet (mC (.bl false))) (mSkip))
 (mRet (mAndV (mBin vEq (mCall M_marks_in (mCons (mC (.str (Str.ofString ""))) (mNil))) (mTup (mNil))) (mBin vEq (mCall M_marks_in (mCons (mC (.str (Str.ofString " \n a'>=-1"))) (mNil))) (mTup (mCons (mTup (mCons (mC (.int 0)) (mCons (mC (.int 1)) (mCons (mC (.str (Str.ofString "\n"))) (mNil))))) (mCons (mTup (mCons (mC (.int 1)) (mCons (mC (.int 1)) (mCons (mC (.str (Str.ofString "a"))) (mNil))))) (mCons (mTup (mCons (mC (.int 1)) (mCons (mC (.int 2)) (mCons (mC (.str (Str.ofString "'"))) (mNil))))) (mCons (mTup (mCons (mC (.int 1)) (mCons (mC (.int 3)) (mCons (mC (.str (Str.ofString ">="))) (mNil))))) (mCons (mTup (mCons (mC (.int 1)) (mCons (mC (.int 5)) (mCons (mC (.str (Str.ofString "-"))) (mNil))))) (mCons (mTup (mCons (mC (.int 1)) (mCons (mC (.int 6)) (mCons (mC (.str (Str.ofString "1"))) (mNil))))) (mNil))))))))))))))
noncomputable def M_law : MCall := genM 0 8 N_law m_law
end T5
namespace T5
open PySem PySem.Spec PyProof.Rows L2 Fx
theorem drop_step {α : Type} {L l : List α} {c : α} {k : Nat} (h : L.drop k = c :: l) : k < L.length ∧ L[k]? = some c ∧ L.drop (k + 1) = l := by
  have hk : k < L.length := by
    apply Nat.lt_of_not_le
    intro z
    rw [List.drop_eq_nil_of_le z] at h
    cases h
  rw [List.drop_eq_getElem_cons hk] at h
  injection h with h1 h2
  exact ⟨hk, by rw [List.getElem?_eq_getElem hk, h1], h2⟩
theorem drop_end {α : Type} {L : List α} {k : Nat} (h : L.drop k = []) : L.length ≤ k := by
  have := congrArg List.length h
  rw [List.length_drop, List.length_nil] at this
  omega
theorem succ_int (k : Nat) : ((k : Int) + 1) = ((k + 1 : Nat) : Int) := by omega
def inS (s : List Nat) (c : Nat) : Bool := decide (c ∈ s)
theorem wh_run {s t : List Nat} {S : Store} (hz : t.length ≤ sizeLine) : ∀ (l : List Nat) (k : Nat), t.drop k = l → k ≤ t.length →
    whN (mAnd (mTest (mBin vLt (mVar 1) (mCall vLen (mCons (mVar 0) (mNil))))) (mTest (mBin (vIn false) (mBin vIx (mVar 0) (mVar 1)) (mVar 2)))) (mSet (mBin vAdd (mVar 1) (mC (.int 1))) (gN 1)) (l.length + 1)
      [some (.str (sL t)), some (.int (k : Int)), some (.str (sL s))] S = some (.nx [some (.str (sL t)), some (.int ((k + (l.takeWhile (inS s)).length : Nat) : Int)), some (.str (sL s))], S)
  | [], k, h, hk => by
    have hl := drop_end h
    rw [List.length_nil, wh_s]
    have hl' : ¬ (k : Int) < (t.length : Int) := by omega
    simp [hz, hl']
  | c :: l, k, h, hk => by
    obtain ⟨h1, h2, h3⟩ := drop_step h
    have ih := wh_run (s := s) (S := S) hz l (k + 1) h3 (by omega)
    rw [List.length_cons, wh_s]
    have hl' : (k : Int) < (t.length : Int) := by omega
    by_cases hc : c ∈ s
    · have e2 : k + ((l.takeWhile (inS s)).length + 1) = k + 1 + (l.takeWhile (inS s)).length := by omega
      rw [List.takeWhile_cons_of_pos (by unfold inS; simpa using hc), List.length_cons, e2]
      rw [← ih]
      simp [hz, hl', h2, hc]
    · rw [List.takeWhile_cons_of_neg (by unfold inS; simpa using hc)]
      simp [hz, hl', h2, hc]
theorem call_run_end {s t : List Nat} {S : Store} {k : Nat} (w : Wf S) (hz : t.length ≤ sizeLine) (hk : k ≤ t.length) : M_run_end [.str (sL t), .int (k : Int), .str (sL s)] S = some (.int ((k + ((t.drop k).takeWhile (inS s)).length : Nat) : Int), S) := by
  unfold M_run_end
  refine gen_id0 ?_ rfl w refLt_int
  unfold runB m_run_end
  rw [s_then]
  show bnd (bnd (mWhile _ _ [some (.str (sL t)), some (.int (k : Int)), some (.str (sL s))] S) _) _ = _
  rw [mWhile_of (wh_run (s := s) hz _ k rfl hk)]
  simp
def LETc : List Nat := (List.range 26).map (97 + ·)
def DIGc : List Nat := (List.range 10).map (48 + ·)
theorem k_let : k_LETTERS = .str (sL LETc) := rfl
theorem k_dig : k_DIGITS = .str (sL DIGc) := rfl
theorem k_dbl : k_DOUBLE = .tup [.str (sL [62, 61]), .str (sL [60, 61])] := rfl
theorem mem_let (c : Nat) : c ∈ LETc ↔ 97 ≤ c ∧ c ≤ 122 := by
  unfold LETc
  rw [List.mem_map]
  constructor
  · rintro ⟨a, h, rfl⟩
    rw [List.mem_range] at h
    omega
  · intro h
    exact ⟨c - 97, List.mem_range.mpr (by omega), by omega⟩
theorem mem_dig (c : Nat) : c ∈ DIGc ↔ 48 ≤ c ∧ c ≤ 57 := by
  unfold DIGc
  rw [List.mem_map]
  constructor
  · rintro ⟨a, h, rfl⟩
    rw [List.mem_range] at h
    omega
  · intro h
    exact ⟨c - 48, List.mem_range.mpr (by omega), by omega⟩
@[simp] theorem sL_beq (l m : List Nat) : (sL l == sL m) = decide (l = m) := by
  rw [Bool.eq_iff_iff]
  simp [sL_inj]
/-- the mark at the head -/
def mark : List Nat → List Nat
  | [] => []
  | c :: r => if c ∈ LETc then (c :: r).takeWhile (inS LETc) else if c ∈ DIGc then (c :: r).takeWhile (inS DIGc) else if (c :: r).take 2 = [62, 61] ∨ (c :: r).take 2 = [60, 61] then (c :: r).take 2 else [c]
theorem call_mark_at {t : List Nat} {S : Store} {k c : Nat} {r : List Nat} (w : Wf S) (hz : t.length ≤ sizeLine) (h : t.drop k = c :: r) : M_mark_at [.str (sL t), .int (k : Int)] S = some (.str (sL (mark (c :: r))), S) := by
  obtain ⟨h1, h2, h3⟩ := drop_step h
  unfold M_mark_at
  refine gen_id0 ?_ rfl w refLt_str
  unfold runB m_mark_at
  rw [k_let, k_dig, k_dbl]
  have e1 := call_run_end (s := LETc) (S := S) w hz (Nat.le_of_lt h1)
  have e2 := call_run_end (s := DIGc) (S := S) w hz (Nat.le_of_lt h1)
  rw [h] at e1 e2
  have tw : ∀ (p : Nat → Bool) (j : Nat), k + (List.takeWhile p (c :: r)).length = j → List.take (j - k) (c :: r) = List.takeWhile p (c :: r) := fun p j hj => by
    rw [← hj, Nat.add_sub_cancel_left]
    exact (List.prefix_iff_eq_take.mp (List.takeWhile_prefix (p := p) (l := c :: r))).symm
  obtain ⟨j1, hj1⟩ : ∃ j, k + (List.takeWhile (inS LETc) (c :: r)).length = j := ⟨_, rfl⟩
  obtain ⟨j2, hj2⟩ : ∃ j, k + (List.takeWhile (inS DIGc) (c :: r)).length = j := ⟨_, rfl⟩
  obtain ⟨j3, hj3⟩ : ∃ j, k + 2 = j := ⟨_, rfl⟩
  have t1 := tw _ _ hj1
  have t2 := tw _ _ hj2
  have t3 : List.take (j3 - k) (c :: r) = List.take 2 (c :: r) := by rw [← hj3, Nat.add_sub_cancel_left]
  have e3 : ((k : Int) + 2) = (j3 : Int) := by omega
  rw [hj1] at e1
  rw [hj2] at e2
  unfold mark
  by_cases c1 : c ∈ LETc
  · simp [startE_eq, N_mark_at, hz, h2, c1, e1, h]
    rw [t1]
  · by_cases c2 : c ∈ DIGc
    · simp [startE_eq, N_mark_at, hz, h2, c1, c2, e2, h]
      rw [t2]
    · generalize hu : List.take 2 (c :: r) = u at t3
      have q : ∀ v, inD (.str (sL v)) [.str (sL [62, 61]), .str (sL [60, 61])] = decide (v = [62, 61] ∨ v = [60, 61]) := fun v => by
        unfold inD
        simp [L2.inV, flatTo, L2.eqV, sL_inj, eq_comm (b := v)]
      by_cases c3 : u = [62, 61] ∨ u = [60, 61]
      · simp [startE_eq, N_mark_at, hz, h2, c1, c2, h, e3, t3, hu, c3, q, flatD]
      · simp [startE_eq, N_mark_at, hz, h2, c1, c2, h, e3, t3, hu, c3, q, flatD]
        rfl
end T5
namespace T5
open PySem PySem.Spec PyProof.Rows L2 Fx
theorem mark_pos (c : Nat) (r : List Nat) : 1 ≤ (mark (c :: r)).length ∧ (mark (c :: r)).length ≤ (c :: r).length ∧ mark (c :: r) <+: (c :: r) := by
  have ht : ∀ p : Nat → Bool, List.takeWhile p (c :: r) <+: (c :: r) := fun p => List.takeWhile_prefix p
  have h1 : ∀ m, m <+: (c :: r) → 1 ≤ m.length → 1 ≤ m.length ∧ m.length ≤ (c :: r).length ∧ m <+: (c :: r) := fun m h q => ⟨q, h.length_le, h⟩
  rw [mark]
  split
  · rename_i h
    refine h1 _ (ht _) ?_
    rw [List.takeWhile_cons_of_pos (by unfold inS; simpa using h)]
    simp
  · split
    · rename_i h
      refine h1 _ (ht _) ?_
      rw [List.takeWhile_cons_of_pos (by unfold inS; simpa using h)]
      simp
    · split
      · refine h1 _ (List.take_prefix _ _) ?_
        simp
      · refine h1 _ ?_ (by simp)
        exact ⟨r, rfl⟩
/-- line, place in the line, mark -/
abbrev Mk := Nat × Nat × List Nat
def marks : Nat → Nat → Nat → List Nat → List Mk
  | 0, _, _, _ => []
  | _, _, _, [] => []
  | f + 1, line, col, c :: r =>
    (if mark (c :: r) = [32] then [] else [(line, col, mark (c :: r))]) ++
      marks f (if mark (c :: r) = [10] then line + 1 else line) (if mark (c :: r) = [10] then 0 else col + (mark (c :: r)).length) ((c :: r).drop (mark (c :: r)).length)
def markV (x : Mk) : Val := .tup [.int (x.1 : Nat), .int (x.2.1 : Nat), .str (sL x.2.2)]
theorem refLt_mk {n : Nat} (x : Mk) : refLt n (markV x) = true := by unfold markV; simp
@[simp] theorem e_sp : Str.ofString " " = sL [32] := rfl
@[simp] theorem e_nl : Str.ofString "\n" = sL [10] := rfl
theorem three : ∀ (a b c : Val), ([a, b, c] : List Val).length ≤ sizeLine := fun _ _ _ => by rw [sizeLine_eq]; exact (by decide : 3 ≤ 16777216)
theorem wh_marks {t : List Nat} {S : Store} (w : Wf S) (hz : t.length ≤ sizeLine) : ∀ (f : Nat) (l : List Nat) (k line col : Nat) (st : Int) (found : List Mk) (o : Option Val), l.length ≤ f → t.drop k = l → k ≤ t.length → (k : Int) - st = (col : Int) → found.length ≤ k →
    ∃ line' st' o', whN (mTest (mBin vLt (mVar 4) (mCall vLen (mCons (mVar 0) (mNil))))) (mThen (mSet (mCall M_mark_at (mCons (mVar 0) (mCons (mVar 4) (mNil)))) (gN 5))
 (mThen (mWhen (mTest (mBin vNe (mVar 5) (mC (.str (Str.ofString " "))))) (mDo (mMeth "list" vAppend (mVar 1) (mCons (mTup (mCons (mVar 2) (mCons (mBin vSub (mVar 4) (mVar 3)) (mCons (mVar 5) (mNil))))) (mNil)))) (mSkip))
 (mThen (mSet (mBin vAdd (mVar 4) (mCall vLen (mCons (mVar 5) (mNil)))) (gN 4))
 (mWhen (mTest (mBin vEq (mVar 5) (mC (.str (Str.ofString "\n"))))) (mPar 2 3 (mCons (mBin vAdd (mVar 2) (mC (.int 1))) (mCons (mVar 4) (mNil)))) (mSkip))))) (f + 1)
      [some (.str (sL t)), some (.ref S.length), some (.int (line : Int)), some (.int st), some (.int (k : Int)), o] (S ++ [.lst (found.map markV)]) =
      some (.nx [some (.str (sL t)), some (.ref S.length), line', st', some (.int (t.length : Int)), o'], S ++ [.lst ((found ++ marks f line col l).map markV)])
  | f, [], k, line, col, st, found, o, hf, h, hk, hc, hd => by
    have hl := drop_end h
    have e : t.length = k := by omega
    refine ⟨some (.int (line : Int)), some (.int st), o, ?_⟩
    rw [wh_s]
    have hm : marks f line col [] = [] := by cases f <;> rfl
    rw [hm]
    simp [hz, e]
    rw [e] at hz
    simp [hz, e]
  | 0, c :: r, k, line, col, st, found, o, hf, h, hk, hc, hd => by simp at hf
  | f + 1, c :: r, k, line, col, st, found, o, hf, h, hk, hc, hd => by
    obtain ⟨h1, h2, h3⟩ := drop_step h
    obtain ⟨m1, m2, m3⟩ := mark_pos c r
    have hdl : (c :: r).length = t.length - k := by rw [← h, List.length_drop]
    have wl : Wf (S ++ [.lst (found.map markV)]) := w.lst (refLtL_map refLt_mk _)
    have ca := call_mark_at (S := S ++ [.lst (found.map markV)]) wl hz h
    rw [wh_s]
    unfold marks
    generalize hm : mark (c :: r) = m at m1 m2 m3 ca ⊢
    have hmz : m.length ≤ sizeLine := by omega
    have h3 : t.drop (k + m.length) = (c :: r).drop m.length := by rw [← List.drop_drop, h]
    have hfz : found.length < sizeLine := by omega
    have hl' : (k : Int) < (t.length : Int) := by omega
    have t3 := three (.int (line : Int)) (.int (col : Int)) (.str (sL m))
    simp only [List.length_cons, List.length_nil] at t3
    have hlen : ((c :: r).drop m.length).length ≤ f := by
      rw [List.length_drop]
      simp only [List.length_cons] at hf m2 ⊢
      omega
    obtain ⟨k', hk'⟩ : ∃ k', k + m.length = k' := ⟨_, rfl⟩
    have ek : (k : Int) + (m.length : Int) = (k' : Int) := by omega
    rw [hk'] at h3
    by_cases q1 : m = [32]
    · have q2 : ¬ m = [10] := by rw [q1]; decide
      obtain ⟨a1, a2, a3, ih⟩ := wh_marks w hz f _ k' line (col + m.length) st found (some (.str (sL m))) hlen h3 (by omega) (by omega) (by omega)
      refine ⟨a1, a2, a3, ?_⟩
      rw [if_pos q1, if_neg q2, if_neg q2, List.nil_append, ← ih]
      simp [hz, hl', ca, hmz, ek, sL_inj, eq_true q1, eq_false q2, markV]
    · by_cases q2 : m = [10]
      · obtain ⟨a1, a2, a3, ih⟩ := wh_marks w hz f _ k' (line + 1) 0 (k' : Int) (found ++ [(line, col, m)]) (some (.str (sL m))) hlen h3 (by omega) (by omega) (by simp; omega)
        refine ⟨a1, a2, a3, ?_⟩
        rw [if_neg q1, if_pos q2, if_pos q2]
        rw [List.append_assoc] at ih
        rw [← ih]
        simp [hz, hl', ca, hmz, ek, sL_inj, eq_false q1, eq_true q2, hc, t3, hfz, markV]
      · obtain ⟨a1, a2, a3, ih⟩ := wh_marks w hz f _ k' line (col + m.length) st (found ++ [(line, col, m)]) (some (.str (sL m))) hlen h3 (by omega) (by omega) (by simp; omega)
        refine ⟨a1, a2, a3, ?_⟩
        rw [if_neg q1, if_neg q2, if_neg q2]
        rw [List.append_assoc] at ih
        rw [← ih]
        simp [hz, hl', ca, hmz, ek, sL_inj, eq_false q1, eq_false q2, hc, t3, hfz, markV]
theorem call_marks_in {t : List Nat} {S : Store} (w : Wf S) (hz : t.length ≤ sizeLine) : M_marks_in [.str (sL t)] S = some (.tup ((marks t.length 0 0 t).map markV), S) := by
  obtain ⟨a1, a2, a3, h⟩ := wh_marks w hz t.length t 0 0 0 0 [] none (Nat.le_refl _) (by simp) (by omega) (by omega) (by simp)
  have h' := mWhile_of h
  unfold M_marks_in
  refine gen_id (J := [.lst ((marks t.length 0 0 t).map markV)]) ?_ rfl w (by rw [refLt_tup]; exact refLtL_map refLt_mk _)
  unfold runB m_marks_in
  have e4 : 4 ≤ sizeLine := by rw [sizeLine_eq]; exact (by decide : 4 ≤ 16777216)
  simp only [List.map_nil, Int.ofNat_zero, Int.natCast_zero, List.nil_append] at h'
  simp [startE_eq, N_marks_in, e4, h', -e_sp, -e_nl]
end T5
namespace T5
open PySem PySem.Spec PyProof.Rows L2 Fx
def rng (lo hi c : Nat) : Bool := decide (lo ≤ c) && decide (c ≤ hi)
theorem rng_let : inS LETc = rng 97 122 := by
  funext c
  unfold inS rng
  rw [Bool.eq_iff_iff]
  simp [mem_let]
theorem rng_dig : inS DIGc = rng 48 57 := by
  funext c
  unfold inS rng
  rw [Bool.eq_iff_iff]
  simp [mem_dig]
theorem lt1 (a b : Nat) [d : Decidable ([a] < [b])] : decide ([a] < [b]) = decide (a < b) := by
  rw [Bool.eq_iff_iff, decide_eq_true_eq, decide_eq_true_eq, List.cons_lt_cons_iff]
  simp
@[simp high] theorem v_le1 (a b : Nat) (S : Store) : vLe (.str (sL [a])) (.str (sL [b])) S = some (.bl (decide (a ≤ b)), S) := by
  rw [v_leS, cps_sL, cps_sL, lt1]
  have : (!decide (b < a)) = decide (a ≤ b) := by
    rw [Bool.eq_iff_iff]
    simp
  rw [this]
theorem wh_end {t : List Nat} {S : Store} {lo hi : Nat} {a1 a2 a3 a4 : Option Val} (hz : t.length ≤ sizeLine) : ∀ (l : List Nat) (k : Nat), t.drop k = l → k ≤ t.length →
    whN (mAnd (mTest (mBin vLt (mVar 5) (mCall vLen (mCons (mVar 0) (mNil))))) (mTest (mChain vLe vLe (mC (.str (sL [lo]))) (mBin vIx (mVar 0) (mVar 5)) (mC (.str (sL [hi])))))) (mSet (mBin vAdd (mVar 5) (mC (.int 1))) (gN 5)) (l.length + 1)
      [some (.str (sL t)), a1, a2, a3, a4, some (.int (k : Int))] S = some (.nx [some (.str (sL t)), a1, a2, a3, a4, some (.int ((k + (l.takeWhile (rng lo hi)).length : Nat) : Int))], S)
  | [], k, h, hk => by
    have hl := drop_end h
    rw [List.length_nil, wh_s]
    have hl' : ¬ (k : Int) < (t.length : Int) := by omega
    simp [hz, hl']
  | c :: l, k, h, hk => by
    obtain ⟨h1, h2, h3⟩ := drop_step h
    have ih := wh_end (lo := lo) (hi := hi) (a1 := a1) (a2 := a2) (a3 := a3) (a4 := a4) (S := S) hz l (k + 1) h3 (by omega)
    rw [List.length_cons, wh_s]
    have hl' : (k : Int) < (t.length : Int) := by omega
    by_cases hc : rng lo hi c = true
    · have e2 : k + ((l.takeWhile (rng lo hi)).length + 1) = k + 1 + (l.takeWhile (rng lo hi)).length := by omega
      rw [List.takeWhile_cons_of_pos hc, List.length_cons, e2]
      rw [← ih]
      unfold rng at hc
      simp at hc
      simp [hz, hl', h2, hc, sign_sL]
    · rw [List.takeWhile_cons_of_neg hc]
      unfold rng at hc
      by_cases h5 : lo ≤ c
      · simp [h5] at hc
        have h6 : ¬ c ≤ hi := by omega
        simp [hz, hl', h2, sign_sL, h5, h6]
      · simp [hz, hl', h2, sign_sL, h5]
@[simp] theorem e_a : Str.ofString "a" = sL [97] := rfl
@[simp] theorem e_z : Str.ofString "z" = sL [122] := rfl
@[simp] theorem e_0 : Str.ofString "0" = sL [48] := rfl
@[simp] theorem e_9 : Str.ofString "9" = sL [57] := rfl
@[simp] theorem e_ang : Str.ofString "<>" = sL [60, 62] := rfl
@[simp] theorem e_eq : Str.ofString "=" = sL [61] := rfl
theorem mark_head (c : Nat) (r : List Nat) : ∃ m, mark (c :: r) = c :: m := by
  obtain ⟨h1, h2, h3⟩ := mark_pos c r
  obtain ⟨q, hq⟩ := h3
  cases hm : mark (c :: r) with
  | nil => rw [hm] at h1; simp at h1
  | cons a m =>
    rw [hm] at hq
    injection hq with e1 e2
    exact ⟨m, by rw [e1]⟩
theorem mark_one {c : Nat} {r : List Nat} {a : Nat} (h1 : a ∉ LETc) (h2 : a ∉ DIGc) (h3 : a ≠ 62) (h4 : a ≠ 60) : mark (c :: r) = [a] ↔ c = a := by
  constructor
  · intro h
    obtain ⟨m, hm⟩ := mark_head c r
    rw [hm] at h
    injection h
  · rintro rfl
    rw [mark, if_neg h1, if_neg h2, if_neg (by simp [h3, h4])]
theorem mark_sp (c : Nat) (r : List Nat) : mark (c :: r) = [32] ↔ c = 32 := mark_one (by decide) (by decide) (by decide) (by decide)
theorem mark_nl (c : Nat) (r : List Nat) : mark (c :: r) = [10] ↔ c = 10 := mark_one (by decide) (by decide) (by decide) (by decide)
theorem take_one (r : List Nat) (c : Nat) : ((c :: r).take 2 = [62, 61] ∨ (c :: r).take 2 = [60, 61]) ↔ (c = 60 ∨ c = 62) ∧ r.take 1 = [61] := by
  simp
  constructor
  · rintro (⟨h, q⟩ | ⟨h, q⟩)
    · exact ⟨.inr h, q⟩
    · exact ⟨.inl h, q⟩
  · rintro ⟨h | h, q⟩
    · exact .inr ⟨h, q⟩
    · exact .inl ⟨h, q⟩
/-- the branch that finds where the mark ends -/
theorem blk_end {t : List Nat} {S : Store} {k c : Nat} {r : List Nat} {a1 a2 a3 : Option Val} (hz : t.length ≤ sizeLine) (h : t.drop k = c :: r) :
    (mWhen (mTest (mChain vLe vLe (mC (.str (Str.ofString "a"))) (mBin vIx (mVar 0) (mVar 4)) (mC (.str (Str.ofString "z"))))) (mWhile (mAnd (mTest (mBin vLt (mVar 5) (mCall vLen (mCons (mVar 0) (mNil))))) (mTest (mChain vLe vLe (mC (.str (Str.ofString "a"))) (mBin vIx (mVar 0) (mVar 5)) (mC (.str (Str.ofString "z")))))) (mSet (mBin vAdd (mVar 5) (mC (.int 1))) (gN 5))) (mWhen (mTest (mChain vLe vLe (mC (.str (Str.ofString "0"))) (mBin vIx (mVar 0) (mVar 4)) (mC (.str (Str.ofString "9"))))) (mWhile (mAnd (mTest (mBin vLt (mVar 5) (mCall vLen (mCons (mVar 0) (mNil))))) (mTest (mChain vLe vLe (mC (.str (Str.ofString "0"))) (mBin vIx (mVar 0) (mVar 5)) (mC (.str (Str.ofString "9")))))) (mSet (mBin vAdd (mVar 5) (mC (.int 1))) (gN 5))) (mWhen (mAnd (mTest (mBin (vIn false) (mBin vIx (mVar 0) (mVar 4)) (mC (.str (Str.ofString "<>"))))) (mTest (mBin vEq (mSl (vSl false) (mVar 0) (mPart (mVar 5)) (mPart (mBin vAdd (mVar 5) (mC (.int 1))))) (mC (.str (Str.ofString "=")))))) (mSet (mBin vAdd (mVar 5) (mC (.int 1))) (gN 5)) (mSkip))))
      [some (.str (sL t)), a1, a2, a3, some (.int (k : Int)), some (.int ((k + 1 : Nat) : Int))] S = some (.nx [some (.str (sL t)), a1, a2, a3, some (.int (k : Int)), some (.int ((k + (mark (c :: r)).length : Nat) : Int))], S) := by
  obtain ⟨h1, h2, h3⟩ := drop_step h
  rw [e_a, e_z, e_0, e_9, e_ang, e_eq]
  have w1 := mWhile_of (wh_end (S := S) (lo := 97) (hi := 122) (a1 := a1) (a2 := a2) (a3 := a3) (a4 := some (.int (k : Int))) hz r (k + 1) h3 (by omega))
  have w2 := mWhile_of (wh_end (S := S) (lo := 48) (hi := 57) (a1 := a1) (a2 := a2) (a3 := a3) (a4 := some (.int (k : Int))) hz r (k + 1) h3 (by omega))
  obtain ⟨j1, hj1⟩ : ∃ j, k + 1 = j := ⟨_, rfl⟩
  obtain ⟨j3, hj3⟩ : ∃ j, j1 + 1 = j := ⟨_, rfl⟩
  have e3 : ((j1 : Int) + 1) = (j3 : Int) := by omega
  rw [hj1] at w1 w2 h3 ⊢
  by_cases c1 : rng 97 122 c = true
  · have hL : c ∈ LETc := by rw [mem_let]; unfold rng at c1; simp at c1; exact c1
    have e : k + (mark (c :: r)).length = j1 + (r.takeWhile (rng 97 122)).length := by
      rw [mark, if_pos hL, rng_let, List.takeWhile_cons_of_pos c1, List.length_cons]
      omega
    rw [e, ← w1]
    unfold rng at c1
    simp at c1
    simp [hz, h2, c1, sign_sL]
  · have hL : ¬ c ∈ LETc := by rw [mem_let]; unfold rng at c1; simp at c1; omega
    have c1' : ¬ (97 ≤ c ∧ c ≤ 122) := by rw [mem_let] at hL; exact hL
    by_cases c2 : rng 48 57 c = true
    · have hD : c ∈ DIGc := by rw [mem_dig]; unfold rng at c2; simp at c2; exact c2
      have e : k + (mark (c :: r)).length = j1 + (r.takeWhile (rng 48 57)).length := by
        rw [mark, if_neg hL, if_pos hD, rng_dig, List.takeWhile_cons_of_pos c2, List.length_cons]
        omega
      rw [e, ← w2]
      unfold rng at c2
      simp at c2
      have c1'' : ¬ 97 ≤ c := by omega
      simp [hz, h2, c1'', c2, sign_sL]
    · have hD : ¬ c ∈ DIGc := by rw [mem_dig]; unfold rng at c2; simp at c2; omega
      have c2' : ¬ (48 ≤ c ∧ c ≤ 57) := by rw [mem_dig] at hD; exact hD
      have hm : (mark (c :: r)).length = if (c = 60 ∨ c = 62) ∧ r.take 1 = [61] then 2 else 1 := by
        rw [mark, if_neg hL, if_neg hD]
        by_cases q : (c = 60 ∨ c = 62) ∧ r.take 1 = [61]
        · rw [if_pos ((take_one r c).mpr q), if_pos q]
          have q2 := (take_one r c).mpr q
          rcases q2 with q2 | q2 <;> rw [q2] <;> rfl
        · rw [if_neg (fun z => q ((take_one r c).mp z)), if_neg q]
          rfl
      rw [hm]
      have t3 : List.take (j3 - j1) r = List.take 1 r := by rw [← hj3, Nat.add_sub_cancel_left]
      generalize hu : List.take 1 r = u at t3 ⊢
      have j2 : k + 2 = j3 := by omega
      have fin : (mWhen (mAnd (mTest (mBin (vIn false) (mBin vIx (mVar 0) (mVar 4)) (mC (.str (sL [60, 62]))))) (mTest (mBin vEq (mSl (vSl false) (mVar 0) (mPart (mVar 5)) (mPart (mBin vAdd (mVar 5) (mC (.int 1))))) (mC (.str (sL [61])))))) (mSet (mBin vAdd (mVar 5) (mC (.int 1))) (gN 5)) (mSkip))
        [some (.str (sL t)), a1, a2, a3, some (.int (k : Int)), some (.int (j1 : Int))] S = some (.nx [some (.str (sL t)), a1, a2, a3, some (.int (k : Int)), some (.int ((k + (if (c = 60 ∨ c = 62) ∧ u = [61] then 2 else 1) : Nat) : Int))], S) := by
        by_cases q : c = 60 ∨ c = 62
        · by_cases q2 : u = [61]
          · rw [if_pos ⟨q, q2⟩, j2]
            simp [hz, h2, h3, e3, t3, q, eq_true q2, sL_inj]
          · rw [if_neg (fun z => q2 z.2), hj1]
            simp [hz, h2, h3, e3, t3, q, eq_false q2, sL_inj]
        · rw [if_neg (fun z => q z.1), hj1]
          simp [hz, h2, h3, e3, t3, q, sL_inj]
      refine Eq.trans ?_ fin
      have d1 : decide (97 ≤ c) = true → decide (c ≤ 122) = false := fun z => by simp at z ⊢; omega
      have d2 : decide (48 ≤ c) = true → decide (c ≤ 57) = false := fun z => by simp at z ⊢; omega
      have T1 : (mTest (mChain vLe vLe (mC (.str (sL [97]))) (mBin vIx (mVar 0) (mVar 4)) (mC (.str (sL [122]))))) [some (.str (sL t)), a1, a2, a3, some (.int (k : Int)), some (.int (j1 : Int))] S = some (false, S) := by
        by_cases z : 97 ≤ c
        · have z2 : ¬ c ≤ 122 := by omega
          simp [hz, h2, sign_sL, z, z2]
        · simp [hz, h2, sign_sL, z]
      have T2 : (mTest (mChain vLe vLe (mC (.str (sL [48]))) (mBin vIx (mVar 0) (mVar 4)) (mC (.str (sL [57]))))) [some (.str (sL t)), a1, a2, a3, some (.int (k : Int)), some (.int (j1 : Int))] S = some (false, S) := by
        by_cases z : 48 ≤ c
        · have z2 : ¬ c ≤ 57 := by omega
          simp [hz, h2, sign_sL, z, z2]
        · simp [hz, h2, sign_sL, z]
      rw [s_when, T1, bnd_ok, if_neg (by decide), s_when, T2, bnd_ok, if_neg (by decide)]
theorem wh_lm {t : List Nat} {S : Store} {B : MS} (hB : ∀ (k c : Nat) (r : List Nat) (a1 a2 a3 : Option Val) (S' : Store), t.drop k = c :: r → B [some (.str (sL t)), a1, a2, a3, some (.int (k : Int)), some (.int ((k + 1 : Nat) : Int))] S' = some (.nx [some (.str (sL t)), a1, a2, a3, some (.int (k : Int)), some (.int ((k + (mark (c :: r)).length : Nat) : Int))], S')) (hz : t.length ≤ sizeLine) : ∀ (f : Nat) (l : List Nat) (k line col : Nat) (st : Int) (found : List Mk) (o : Option Val), l.length ≤ f → t.drop k = l → k ≤ t.length → (k : Int) - st = (col : Int) → found.length ≤ k →
    ∃ line' st' o', whN (mTest (mBin vLt (mVar 4) (mCall vLen (mCons (mVar 0) (mNil))))) (mThen (mSet (mBin vAdd (mVar 4) (mC (.int 1))) (gN 5))
 (mThen B
 (mThen (mWhen (mTest (mBin vNe (mBin vIx (mVar 0) (mVar 4)) (mC (.str (Str.ofString " "))))) (mDo (mMeth "list" vAppend (mVar 1) (mCons (mTup (mCons (mVar 2) (mCons (mBin vSub (mVar 4) (mVar 3)) (mCons (mSl (vSl false) (mVar 0) (mPart (mVar 4)) (mPart (mVar 5))) (mNil))))) (mNil)))) (mSkip))
 (mThen (mWhen (mTest (mBin vEq (mBin vIx (mVar 0) (mVar 4)) (mC (.str (Str.ofString "\n"))))) (mPar 2 3 (mCons (mBin vAdd (mVar 2) (mC (.int 1))) (mCons (mVar 5) (mNil)))) (mSkip))
 (mSet (mVar 5) (gN 4)))))) (f + 1)
      [some (.str (sL t)), some (.ref S.length), some (.int (line : Int)), some (.int st), some (.int (k : Int)), o] (S ++ [.lst (found.map markV)]) =
      some (.nx [some (.str (sL t)), some (.ref S.length), line', st', some (.int (t.length : Int)), o'], S ++ [.lst ((found ++ marks f line col l).map markV)])
  | f, [], k, line, col, st, found, o, hf, h, hk, hc, hd => by
    have hl := drop_end h
    have e : t.length = k := by omega
    refine ⟨some (.int (line : Int)), some (.int st), o, ?_⟩
    rw [wh_s]
    have hm : marks f line col [] = [] := by cases f <;> rfl
    rw [hm]
    rw [e] at hz
    simp [hz, e]
  | 0, c :: r, k, line, col, st, found, o, hf, h, hk, hc, hd => by simp at hf
  | f + 1, c :: r, k, line, col, st, found, o, hf, h, hk, hc, hd => by
    obtain ⟨h1, h2, h3⟩ := drop_step h
    obtain ⟨m1, m2, m3⟩ := mark_pos c r
    have hdl : (c :: r).length = t.length - k := by rw [← h, List.length_drop]
    have be := hB k c r (some (.ref S.length)) (some (.int (line : Int))) (some (.int st)) (S ++ [.lst (found.map markV)]) h
    have s1 := mark_sp c r
    have s2 := mark_nl c r
    have tk : List.take (mark (c :: r)).length (c :: r) = mark (c :: r) := (List.prefix_iff_eq_take.mp m3).symm
    rw [wh_s]
    unfold marks
    generalize hm : mark (c :: r) = m at m1 m2 m3 be s1 s2 tk ⊢
    have h3 : t.drop (k + m.length) = (c :: r).drop m.length := by rw [← List.drop_drop, h]
    have hfz : found.length < sizeLine := by omega
    have hl' : (k : Int) < (t.length : Int) := by omega
    have t3 := three (.int (line : Int)) (.int (col : Int)) (.str (sL m))
    simp only [List.length_cons, List.length_nil] at t3
    have hlen : ((c :: r).drop m.length).length ≤ f := by
      rw [List.length_drop]
      simp only [List.length_cons] at hf m2 ⊢
      omega
    obtain ⟨k', hk'⟩ : ∃ k', k + m.length = k' := ⟨_, rfl⟩
    have tk' : List.take (k' - k) (c :: r) = m := by rw [← hk', Nat.add_sub_cancel_left]; exact tk
    rw [hk'] at h3 be
    rw [← succ_int] at be
    by_cases q1 : c = 32
    · have q2 : ¬ c = 10 := by rw [q1]; decide
      obtain ⟨a1, a2, a3, ih⟩ := wh_lm (S := S) hB hz f _ k' line (col + m.length) st found (some (.int (k' : Int))) hlen h3 (by omega) (by omega) (by omega)
      refine ⟨a1, a2, a3, ?_⟩
      rw [if_pos (s1.mpr q1), if_neg (fun z => q2 (s2.mp z)), if_neg (fun z => q2 (s2.mp z)), List.nil_append, ← ih]
      simp [hz, h2, hl', be, sL_inj, sign_sL, eq_true q1, eq_false q2]
    · by_cases q2 : c = 10
      · obtain ⟨a1, a2, a3, ih⟩ := wh_lm (S := S) hB hz f _ k' (line + 1) 0 (k' : Int) (found ++ [(line, col, m)]) (some (.int (k' : Int))) hlen h3 (by omega) (by omega) (by simp; omega)
        refine ⟨a1, a2, a3, ?_⟩
        rw [if_neg (fun z => q1 (s1.mp z)), if_pos (s2.mpr q2), if_pos (s2.mpr q2)]
        rw [List.append_assoc] at ih
        rw [← ih]
        simp [hz, h2, hl', be, sL_inj, sign_sL, eq_false q1, eq_true q2, hc, t3, hfz, markV, h, tk']
      · obtain ⟨a1, a2, a3, ih⟩ := wh_lm (S := S) hB hz f _ k' line (col + m.length) st (found ++ [(line, col, m)]) (some (.int (k' : Int))) hlen h3 (by omega) (by omega) (by simp; omega)
        refine ⟨a1, a2, a3, ?_⟩
        rw [if_neg (fun z => q1 (s1.mp z)), if_neg (fun z => q2 (s2.mp z)), if_neg (fun z => q2 (s2.mp z))]
        rw [List.append_assoc] at ih
        rw [← ih]
        simp [hz, h2, hl', be, sL_inj, sign_sL, eq_false q1, eq_false q2, hc, t3, hfz, markV, h, tk']
theorem call_law_marks {t : List Nat} {S : Store} (w : Wf S) (hz : t.length ≤ sizeLine) : M__law_marks [.str (sL t)] S = some (.tup ((marks t.length 0 0 t).map markV), S) := by
  obtain ⟨a1, a2, a3, h⟩ := wh_lm (S := S) (fun k c r a1 a2 a3 S' h => blk_end hz h) hz t.length t 0 0 0 0 [] none (Nat.le_refl _) (by simp) (by omega) (by omega) (by simp)
  have h' := mWhile_of h
  unfold M__law_marks
  refine gen_id (J := [.lst ((marks t.length 0 0 t).map markV)]) ?_ rfl w (by rw [refLt_tup]; exact refLtL_map refLt_mk _)
  unfold runB m__law_marks
  have e4 : 4 ≤ sizeLine := by rw [sizeLine_eq]; exact (by decide : 4 ≤ 16777216)
  simp only [List.map_nil, Int.ofNat_zero, Int.natCast_zero, List.nil_append] at h'
  simp [startE_eq, N__law_marks, e4, h', -e_sp, -e_nl, -e_a, -e_z, -e_0, -e_9, -e_ang, -e_eq]
end T5
namespace T5
open PySem PySem.Spec PyProof.Rows L2 Fx
/-! ### the law's own draws -/
def hs (cells : List Int) (st : Int) (R : Store) : Store := .lst (cells.map .int) :: .lst [.ref 0, .int st] :: R
def WfR (R : Store) : Prop := ∀ cells st, Wf (hs cells st R)
theorem wfr_nil : WfR [] := fun cells st i c h => by
  match i with
  | 0 => simp [hs] at h; subst h; simp [refLtC]
  | 1 => simp [hs] at h; subst h; simp [refLtC, hs]
  | i + 2 => simp [hs] at h
def cellOf (c : Int) : Int := 2 * (if c < 0 then -c else c) + (if c < 0 then 1 else 0)
theorem lc_cells {S : Store} {a b c : Option Val} : ∀ (xs : List Int) (o : Option Val), lcL (gN 1) mYes (mBin vAdd (mBin vMul (mC (.int 2)) (mCall vAbs (mCons (mVar 1) (mNil)))) (mCall vInt (mCons (mBin vLt (mVar 1) (mC (.int 0))) (mNil)))) [a, o, b, c] (xs.map Val.int) S = some ((xs.map cellOf).map Val.int, S)
  | [], o => rfl
  | x :: xs, o => by
    have ih := lc_cells (S := S) (a := a) (b := b) (c := c) xs o
    rw [List.map_cons, lc_cons]
    by_cases h : x < 0
    · simp [cmul2, ih, cellOf, h]
    · simp [cmul2, ih, cellOf, h]
theorem lc_big {S : Store} {a b c : Option Val} : ∀ (xs : List Int) (o : Option Val), lcL (gN 1) (mTest (mBin vGe (mVar 1) (mBin vPow (mC (.int 10)) (mC (.int 18))))) (mVar 1) [a, o, b, c] (xs.map Val.int) S = some ((xs.filter fun x => decide ((10 : Int) ^ 18 ≤ x)).map Val.int, S)
  | [], o => rfl
  | x :: xs, o => by
    have ih := lc_big (S := S) (a := a) (b := b) (c := c) xs o
    have hp : CPow 10 18 := ⟨by decide, by decide, by decide⟩
    rw [List.map_cons, lc_cons]
    by_cases h : (10 : Int) ^ 18 ≤ x
    · rw [List.filter_cons_of_pos (by simpa using h)]
      simp at h
      simp [hp, ih, h]
    · rw [List.filter_cons_of_neg (by simpa using h)]
      simp at h
      have h' : ¬ (1000000000000000000 : Int) ≤ x := by omega
      simp [hp, ih, h']
theorem for_stir {S : Store} {a b : Option Val} : ∀ (xs : List Int) (o : Option Val) (s : Int), ∃ o' s', forL (gN 1) (mSet (mBin vMod (mCall vInt (mCons (mBin vAdd (mBin vAdd (mBin vMul (mVar 3) (mC (.int 69621))) (mBin vMod (mCall vInt (mCons (mVar 1) (mNil))) (mC (.int 2147483563)))) (mC (.int 29))) (mNil))) (mC (.int 2147483647))) (gN 3)) (xs.map Val.int) [a, o, b, some (.int s)] S = some (.nx [a, o', b, some (.int s')], S)
  | [], o, s => ⟨o, s, rfl⟩
  | x :: xs, o, s => by
    have hc : CMul s 69621 := .inr (by decide)
    obtain ⟨o', s', ih⟩ := for_stir (S := S) (a := a) (b := b) xs (some (.int x)) ((s * 69621 + x.fmod 2147483563 + 29).fmod 2147483647)
    refine ⟨o', s', ?_⟩
    rw [← ih, List.map_cons, for_cons]
    simp [hc]
theorem call_heap {ns : List Int} : ∃ cells st, M__law_heap [.scr (ns.map .int)] [] = some (.ref 1, hs cells st []) ∧ cells.length ≤ 60 := by
  have e1 : 60 ≤ sizeLine := by rw [sizeLine_eq]; decide
  have e2 : 2 ≤ sizeLine := by rw [sizeLine_eq]; decide
  obtain ⟨xs, hxs⟩ : ∃ xs, (ns.take 60).map cellOf = xs := ⟨_, rfl⟩
  have hl : xs.length ≤ 60 := by rw [← hxs, List.length_map, List.length_take]; omega
  obtain ⟨o', s', hf⟩ := for_stir (S := []) (a := some (.scr (ns.map Val.int))) (b := some (.fro (xs.map Val.int))) xs none 70501
  have hc := lc_cells (S := []) (a := some (.scr (ns.map Val.int))) (b := none) (c := none) (ns.take 60) none
  rw [hxs] at hc
  have hb := lc_big (S := []) (a := some (.scr (ns.map Val.int))) (b := some (.fro (xs.map Val.int))) (c := some (.int s')) xs none
  obtain ⟨ys, hys⟩ : ∃ ys, (xs.filter fun x => decide ((10 : Int) ^ 18 ≤ x)) = ys := ⟨_, rfl⟩
  have hl2 : ys.length ≤ 60 := by
    rw [← hys]
    exact Nat.le_trans (List.length_filter_le _ _) hl
  rw [hys] at hb
  refine ⟨ys.reverse, s', ?_, by rw [List.length_reverse]; exact hl2⟩
  have ht : List.take 60 (ns.map Val.int) = (ns.take 60).map Val.int := by rw [List.map_take]
  unfold M__law_heap
  refine gen_of (J := []) (d0 := .ref 1) (S1 := hs ys.reverse s' []) ?_ rfl (wfr_nil _ _) (frz_id (by simp [hs]))
  unfold runB m__law_heap
  have z1 : xs.length ≤ sizeLine := by omega
  have z2 : ys.length ≤ sizeLine := by omega
  rw [← ht] at hc
  simp [startE_eq, N__law_heap, cutD_60, hc, hf, hb, z1, z2, e2, wipeE, hs]
theorem ix21 : ixN 2 1 = some 1 := rfl
theorem fm_pos {v m : Int} (hm : 0 < m) : 0 ≤ v.fmod m ∧ v.fmod m < m := ⟨Int.fmod_nonneg_of_pos v hm, Int.fmod_lt_of_pos v hm⟩
theorem wh_draw {R : Store} {st m : Int} {o : Option Val} : ∀ (n : Nat) (cells : List Int), cells.length ≤ n → ∃ cells', cells'.length ≤ cells.length ∧
    whN (mAnd (mTest (mBin vNe (mBin vIx (mVar 0) (mC (.int 0))) (mFro (mNil)))) (mTest (mBin vEq (mBin vIx (mBin vIx (mVar 0) (mC (.int 0))) (mUn vNeg (mC (.int 1)))) (mC (.int 0))))) (mDo (mMeth "list" vPop (mBin vIx (mVar 0) (mC (.int 0))) mNil)) (n + 1)
      [some (.ref 1), some (.int m), o] (hs cells st R) = some (.nx [some (.ref 1), some (.int m), o], hs cells' st R)
  | n, [], h => by
    refine ⟨[], Nat.le_refl _, ?_⟩
    have e := v_nil (S := hs [] st R) (r := 0) (xs := []) true rfl
    rw [wh_s]
    simp [hs] at e ⊢
    simp [e]
  | n, x :: xs, h => by
    have e := v_nil (S := hs (x :: xs) st R) (r := 0) (xs := x :: xs) true rfl
    have e2 := v_ixL (hs (x :: xs) st R) ((x :: xs).map Val.int) 0 (by simp) rfl
    obtain ⟨y, hy⟩ : ∃ y, (x :: xs).getLast? = some y := ⟨(x :: xs).getLast (by simp), List.getLast?_eq_some_getLast (by simp)⟩
    rw [List.getLast?_map, hy] at e2
    by_cases q : y = 0
    · cases n with
      | zero => simp at h
      | succ n =>
        obtain ⟨cells', h1, h2⟩ := wh_draw (R := R) (st := st) (m := m) (o := o) n (x :: xs).dropLast (by simp at h ⊢; omega)
        refine ⟨cells', by simp at h1 ⊢; omega, ?_⟩
        rw [← h2, wh_s]
        simp [hs] at e e2 ⊢
        simp [e, e2, q]
    · refine ⟨x :: xs, Nat.le_refl _, ?_⟩
      rw [wh_s]
      simp [hs] at e e2 ⊢
      simp [e, e2, q]
theorem call_draw {R : Store} {cells : List Int} {st m : Int} (w : WfR R) (hc : cells.length ≤ 60) (h0 : 0 < m) (h1 : m < 1073741824) : ∃ v cells' st', cells'.length ≤ 60 ∧ 0 ≤ v ∧ v < m ∧ M__law_draw [.ref 1, .int m] (hs cells st R) = some (.int v, hs cells' st' R) := by
  obtain ⟨c1, hl, hw⟩ := wh_draw (R := R) (st := st) (m := m) (o := none) cells.length cells (Nat.le_refl _)
  have hw := mWhile_of hw
  have hd : ∀ i : Int, CDivN i m := fun i => ⟨by omega, by omega⟩
  have hm0 : ¬ m = 0 := by omega
  have fin : ∀ (v : Int) c2 s2, c2.length ≤ 60 → runB N__law_draw m__law_draw [.ref 1, .int m] (hs cells st R) = some (.int v, hs c2 s2 R) → 0 ≤ v → v < m →
      ∃ v cells' st', cells'.length ≤ 60 ∧ 0 ≤ v ∧ v < m ∧ M__law_draw [.ref 1, .int m] (hs cells st R) = some (.int v, hs cells' st' R) := fun v c2 s2 hc2 hr h2 h3 =>
    ⟨v, c2, s2, hc2, h2, h3, gen_id0 hr rfl (w _ _) refLt_int⟩
  cases c1 with
  | nil =>
    obtain ⟨p1, p2⟩ := fm_pos (v := ((st * 48271 + 17).fmod 2147483647).fdiv 32) h0
    refine fin _ [] ((st * 48271 + 17).fmod 2147483647) (by simp) ?_ p1 p2
    have e := v_nil (S := hs [] st R) (r := 0) (xs := []) true rfl
    have hcm : CMul st 48271 := .inr (by decide)
    have hd32 : ∀ i : Int, CDivN i 32 := fun i => ⟨by decide, by decide⟩
    have e21 : ixN (0 + 1 + 1) 1 = some 1 := rfl
    unfold runB m__law_draw
    simp [startE_eq, N__law_draw, hw]
    simp [hs] at e ⊢
    simp [e, hcm, hd32, hm0, ix21]
  | cons x xs =>
    obtain ⟨y, hy⟩ : ∃ y, (x :: xs).getLast? = some y := ⟨(x :: xs).getLast (by simp), List.getLast?_eq_some_getLast (by simp)⟩
    obtain ⟨p1, p2⟩ := fm_pos (v := y) h0
    refine fin _ ((x :: xs).dropLast ++ [y.fdiv m]) st (by simp at hl ⊢; omega) ?_ p1 p2
    have e := v_nil (S := hs (x :: xs) st R) (r := 0) (xs := x :: xs) true rfl
    have hy2 : ((x :: xs).map Val.int)[((x :: xs).map Val.int).length - 1]? = some (.int y) := by
      rw [← List.getLast?_eq_getElem?, List.getLast?_map, hy]
      rfl
    have hz : xs.length < sizeLine := by rw [sizeLine_eq]; simp at hl; omega
    unfold runB m__law_draw
    simp [startE_eq, N__law_draw, hw]
    simp [hs] at e hy2 ⊢
    simp [e, hd, hm0, hy2, hz]
/-- what may be picked -/
theorem call_pick {R : Store} {cells : List Int} {st : Int} {l : List Val} (w : WfR R) (hc : cells.length ≤ 60) (h0 : 0 < l.length) (h1 : l.length < 1073741824) (hr : refLtL 0 l = true) :
    ∃ x cells' st', cells'.length ≤ 60 ∧ x ∈ l ∧ M__law_pick [.ref 1, .fro l] (hs cells st R) = some (x, hs cells' st' R) := by
  obtain ⟨v, c2, s2, hc2, p1, p2, hd⟩ := call_draw (R := R) (cells := cells) (st := st) (m := (l.length : Int)) w hc (by omega) (by omega)
  obtain ⟨k, rfl⟩ : ∃ k : Nat, v = (k : Int) := ⟨v.toNat, by omega⟩
  have hk : k < l.length := by omega
  have hx : refLt (hs c2 s2 R).length l[k] = true := refLt_le (Nat.zero_le _) _ (refLtL_all hr _ (List.getElem_mem hk))
  refine ⟨l[k], c2, s2, hc2, List.getElem_mem hk, gen_id0 ?_ rfl (w _ _) hx⟩
  unfold runB m__law_pick
  simp [startE_eq, N__law_pick, hd, hk]
theorem call_pickS {R : Store} {cells : List Int} {st : Int} {z : List Nat} (w : WfR R) (hc : cells.length ≤ 60) (h0 : 0 < z.length) (h1 : z.length < 10000) :
    ∃ c cells' st', cells'.length ≤ 60 ∧ c ∈ z ∧ M__law_pick [.ref 1, .str (sL z)] (hs cells st R) = some (.str (sL [c]), hs cells' st' R) := by
  obtain ⟨v, c2, s2, hc2, p1, p2, hd⟩ := call_draw (R := R) (cells := cells) (st := st) (m := (z.length : Int)) w hc (by omega) (by omega)
  obtain ⟨k, rfl⟩ : ∃ k : Nat, v = (k : Int) := ⟨v.toNat, by omega⟩
  have hk : k < z.length := by omega
  have hz : z.length ≤ sizeLine := by rw [sizeLine_eq]; omega
  refine ⟨z[k], c2, s2, hc2, List.getElem_mem hk, gen_id0 ?_ rfl (w _ _) refLt_str⟩
  unfold runB m__law_pick
  simp [startE_eq, N__law_pick, hd, hk, hz, sign_sL]
end T5
namespace T5
open PySem PySem.Spec PyProof.Rows L2 Fx
def okS : Val → Bool
  | .str z => decide (z.length ≤ 5) && z.cps.toList.all fun c => decide (c < 128)
  | _ => false
theorem ok_s {d : Val} (h : okS d = true) : ∃ w, d = .str (sL w) ∧ w.length ≤ 5 ∧ ∀ c ∈ w, c < 128 := by
  cases d with
  | str z =>
    unfold okS at h
    rw [Bool.and_eq_true, decide_eq_true_eq, List.all_eq_true] at h
    refine ⟨z.cps.toList, by rw [sL_cps], by rw [← len_cps]; exact h.1, fun c hc => by simpa using h.2 c hc⟩
  | _ => cases h
theorem ok_plain : ∀ {l : List Val}, l.all okS = true → refLtL 0 l = true
  | [], _ => by simp
  | d :: l, h => by
    rw [List.all_cons, Bool.and_eq_true] at h
    obtain ⟨w, rfl, _⟩ := ok_s h.1
    simp [ok_plain h.2]
theorem for_str {R : Store} {A B : ME} {la lb : List Val} {sg : List Nat} {m : Val} (w : WfR R) (hA : ∀ env S, A env S = some (.fro la, S)) (hB : ∀ env S, B env S = some (.fro lb, S)) (oa : la.all okS = true) (ob : lb.all okS = true)
    (la0 : 0 < la.length) (la1 : la.length < 1000) (lb0 : 0 < lb.length) (lb1 : lb.length < 1000) (hs0 : 0 < sg.length) (hs1 : sg.length < 10000) (hs2 : ∀ c ∈ sg, c < 128) :
    ∀ (items : List Val) (cells : List Int) (st : Int) (tl : List Nat) (o4 o5 : Option Val), cells.length ≤ 60 → (∀ c ∈ tl, c < 128) → tl.length + 5 * items.length ≤ 10000 →
    ∃ cells' st' tl' o4' o5', forL (gN 4) (mThen (mSet (mCall M__law_draw (mCons (mVar 0) (mCons (mC (.int 9)) (mNil)))) (gN 5))
 (mWhen (mTest (mBin vLt (mVar 5) (mC (.int 3)))) (mSet (mBin vAdd (mVar 3) (mCall M__law_pick (mCons (mVar 0) (mCons (mVar 2) (mNil))))) (gN 3)) (mWhen (mTest (mBin vLt (mVar 5) (mC (.int 7)))) (mSet (mBin vAdd (mVar 3) (mCall M__law_pick (mCons (mVar 0) (mCons A (mNil))))) (gN 3)) (mSet (mBin vAdd (mVar 3) (mCall M__law_pick (mCons (mVar 0) (mCons B (mNil))))) (gN 3)))))
      items [some (.ref 1), some m, some (.str (sL sg)), some (.str (sL tl)), o4, o5] (hs cells st R) = some (.nx [some (.ref 1), some m, some (.str (sL sg)), some (.str (sL tl')), o4', o5'], hs cells' st' R) ∧
      cells'.length ≤ 60 ∧ (∀ c ∈ tl', c < 128) ∧ tl'.length ≤ tl.length + 5 * items.length
  | [], cells, st, tl, o4, o5, hc, ht, hl => ⟨cells, st, tl, o4, o5, rfl, hc, ht, by simp⟩
  | x :: items, cells, st, tl, o4, o5, hc, ht, hl => by
    obtain ⟨v, c1, s1, hc1, p1, p2, hd⟩ := call_draw (R := R) (cells := cells) (st := st) (m := 9) w hc (by decide) (by decide)
    have hsz : sizeLine = 16777216 := sizeLine_eq
    have step : ∀ (d : Val) (c2 : List Int) (s2 : Int), okS d = true → c2.length ≤ 60 →
      (∀ w5 : List Nat, d = .str (sL w5) → w5.length ≤ 5 → forL (gN 4) (mThen (mSet (mCall M__law_draw (mCons (mVar 0) (mCons (mC (.int 9)) (mNil)))) (gN 5))
 (mWhen (mTest (mBin vLt (mVar 5) (mC (.int 3)))) (mSet (mBin vAdd (mVar 3) (mCall M__law_pick (mCons (mVar 0) (mCons (mVar 2) (mNil))))) (gN 3)) (mWhen (mTest (mBin vLt (mVar 5) (mC (.int 7)))) (mSet (mBin vAdd (mVar 3) (mCall M__law_pick (mCons (mVar 0) (mCons A (mNil))))) (gN 3)) (mSet (mBin vAdd (mVar 3) (mCall M__law_pick (mCons (mVar 0) (mCons B (mNil))))) (gN 3)))))
      (x :: items) [some (.ref 1), some m, some (.str (sL sg)), some (.str (sL tl)), o4, o5] (hs cells st R) = forL (gN 4) (mThen (mSet (mCall M__law_draw (mCons (mVar 0) (mCons (mC (.int 9)) (mNil)))) (gN 5))
 (mWhen (mTest (mBin vLt (mVar 5) (mC (.int 3)))) (mSet (mBin vAdd (mVar 3) (mCall M__law_pick (mCons (mVar 0) (mCons (mVar 2) (mNil))))) (gN 3)) (mWhen (mTest (mBin vLt (mVar 5) (mC (.int 7)))) (mSet (mBin vAdd (mVar 3) (mCall M__law_pick (mCons (mVar 0) (mCons A (mNil))))) (gN 3)) (mSet (mBin vAdd (mVar 3) (mCall M__law_pick (mCons (mVar 0) (mCons B (mNil))))) (gN 3)))))
      items [some (.ref 1), some m, some (.str (sL sg)), some (.str (sL (tl ++ w5))), some x, some (.int v)] (hs c2 s2 R)) → ∃ cells' st' tl' o4' o5', forL (gN 4) (mThen (mSet (mCall M__law_draw (mCons (mVar 0) (mCons (mC (.int 9)) (mNil)))) (gN 5))
 (mWhen (mTest (mBin vLt (mVar 5) (mC (.int 3)))) (mSet (mBin vAdd (mVar 3) (mCall M__law_pick (mCons (mVar 0) (mCons (mVar 2) (mNil))))) (gN 3)) (mWhen (mTest (mBin vLt (mVar 5) (mC (.int 7)))) (mSet (mBin vAdd (mVar 3) (mCall M__law_pick (mCons (mVar 0) (mCons A (mNil))))) (gN 3)) (mSet (mBin vAdd (mVar 3) (mCall M__law_pick (mCons (mVar 0) (mCons B (mNil))))) (gN 3)))))
      (x :: items) [some (.ref 1), some m, some (.str (sL sg)), some (.str (sL tl)), o4, o5] (hs cells st R) = some (.nx [some (.ref 1), some m, some (.str (sL sg)), some (.str (sL tl')), o4', o5'], hs cells' st' R) ∧
      cells'.length ≤ 60 ∧ (∀ c ∈ tl', c < 128) ∧ tl'.length ≤ tl.length + 5 * (x :: items).length := by
      intro d c2 s2 hd2 hc2 hrun
      obtain ⟨w5, e5, l5, g5⟩ := ok_s hd2
      have ht2 : ∀ c ∈ tl ++ w5, c < 128 := fun c hcm => by
        rcases List.mem_append.mp hcm with q | q
        · exact ht c q
        · exact g5 c q
      have hl2 : (tl ++ w5).length + 5 * items.length ≤ 10000 := by
        rw [List.length_append]
        rw [List.length_cons] at hl
        omega
      obtain ⟨c3, s3, t3, b4, b5, r1, r2, r3, r4⟩ := for_str w hA hB oa ob la0 la1 lb0 lb1 hs0 hs1 hs2 items c2 s2 (tl ++ w5) (some x) (some (.int v)) hc2 ht2 hl2
      refine ⟨c3, s3, t3, b4, b5, by rw [hrun w5 e5 l5]; exact r1, r2, r3, ?_⟩
      rw [List.length_append] at r4
      rw [List.length_cons]
      omega
    have hlen : ∀ w5 : List Nat, w5.length ≤ 5 → tl.length + w5.length ≤ sizeLine := fun w5 h5 => by rw [hsz]; omega
    by_cases q3 : v < 3
    · obtain ⟨c, c2, s2, hc2, hm, hp⟩ := call_pickS (R := R) (cells := c1) (st := s1) (z := sg) w hc1 hs0 hs1
      refine step (.str (sL [c])) c2 s2 (by have := hs2 c hm; simp [okS, this]) hc2 fun w5 e5 l5 => ?_
      have e6 : [c] = w5 := sL_inj.mp (by injection e5)
      subst e6
      have h1 := hlen [c] (by simp)
      simp at h1
      rw [for_cons]
      simp [hd, q3, hp, h1, sL_app]
    · by_cases q7 : v < 7
      · obtain ⟨d, c2, s2, hc2, hm, hp⟩ := call_pick (R := R) (cells := c1) (st := s1) (l := la) w hc1 la0 (by omega) (ok_plain oa)
        refine step d c2 s2 (List.all_eq_true.mp oa d hm) hc2 fun w5 e5 l5 => ?_
        subst e5
        have h1 := hlen w5 l5
        rw [for_cons]
        simp [hd, q3, q7, hA, hp, h1, sL_app]
      · obtain ⟨d, c2, s2, hc2, hm, hp⟩ := call_pick (R := R) (cells := c1) (st := s1) (l := lb) w hc1 lb0 (by omega) (ok_plain ob)
        refine step d c2 s2 (List.all_eq_true.mp ob d hm) hc2 fun w5 e5 l5 => ?_
        subst e5
        have h1 := hlen w5 l5
        rw [for_cons]
        simp [hd, q3, q7, hB, hp, h1, sL_app]
def la : List Val := [.str (Str.ofString "ab"), .str (Str.ofString "z"), .str (Str.ofString "10"), .str (Str.ofString "007"), .str (Str.ofString "<"), .str (Str.ofString ">"), .str (Str.ofString "="), .str (Str.ofString ">="), .str (Str.ofString "<="), .str (Str.ofString "\n"), .str (Str.ofString " "), .str (Str.ofString "  "), .str (Str.ofString "\n\n"), .str (Str.ofString "'"), .str (Str.ofString "q9")]
def lb : List Val := [.str (Str.ofString "level"), .str (Str.ofString "a"), .str (Str.ofString "0"), .str (Str.ofString "5"), .str (Str.ofString "\n "), .str (Str.ofString " \n"), .str (Str.ofString "=<"), .str (Str.ofString "=>"), .str (Str.ofString "<<="), .str (Str.ofString ">==")]
def sg : Str := (Str.ofString " !\"#$&'()*+,-./0123456789:;<=>?@ABCXYZ[]^_`abcdefghijklmnopqrstuvwxyz{|}~")
theorem la_ok : la.all okS = true := by decide +kernel
theorem lb_ok : lb.all okS = true := by decide +kernel
theorem sg0 : 0 < sg.cps.toList.length := by decide +kernel
theorem sg1 : sg.cps.toList.length < 10000 := by decide +kernel
theorem sg2 : ∀ c ∈ sg.cps.toList, c < 128 := by decide +kernel
theorem e_la (env S) : (mFro (mCons (mC (.str (Str.ofString "ab"))) (mCons (mC (.str (Str.ofString "z"))) (mCons (mC (.str (Str.ofString "10"))) (mCons (mC (.str (Str.ofString "007"))) (mCons (mC (.str (Str.ofString "<"))) (mCons (mC (.str (Str.ofString ">"))) (mCons (mC (.str (Str.ofString "="))) (mCons (mC (.str (Str.ofString ">="))) (mCons (mC (.str (Str.ofString "<="))) (mCons (mC (.str (Str.ofString "\n"))) (mCons (mC (.str (Str.ofString " "))) (mCons (mC (.str (Str.ofString "  "))) (mCons (mC (.str (Str.ofString "\n\n"))) (mCons (mC (.str (Str.ofString "'"))) (mCons (mC (.str (Str.ofString "q9"))) (mNil))))))))))))))))) env S = some (.fro la, S) := by
  have e15 : 15 ≤ sizeLine := by rw [sizeLine_eq]; decide
  simp [e15, la, -e_a, -e_z, -e_0, -e_9, -e_eq, -e_sp, -e_nl]
theorem e_lb (env S) : (mFro (mCons (mC (.str (Str.ofString "level"))) (mCons (mC (.str (Str.ofString "a"))) (mCons (mC (.str (Str.ofString "0"))) (mCons (mC (.str (Str.ofString "5"))) (mCons (mC (.str (Str.ofString "\n "))) (mCons (mC (.str (Str.ofString " \n"))) (mCons (mC (.str (Str.ofString "=<"))) (mCons (mC (.str (Str.ofString "=>"))) (mCons (mC (.str (Str.ofString "<<="))) (mCons (mC (.str (Str.ofString ">=="))) (mNil)))))))))))) env S = some (.fro lb, S) := by
  have e10 : 10 ≤ sizeLine := by rw [sizeLine_eq]; decide
  simp [e10, lb, -e_a, -e_z, -e_0, -e_9, -e_eq, -e_sp, -e_nl]
theorem call_string {cells : List Int} {st : Int} {m : Nat} (hc : cells.length ≤ 60) (hm : m ≤ 100) : ∃ cells' st' tl, cells'.length ≤ 60 ∧ (∀ c ∈ tl, c < 128) ∧ tl.length ≤ 500 ∧ M__law_string [.ref 1, .int (m : Int)] (hs cells st []) = some (.str (sL tl), hs cells' st' []) := by
  have hr : (rangeV 0 m).length = m := by unfold rangeV; simp
  have e2 : 2 ≤ sizeLine := by rw [sizeLine_eq]; decide
  obtain ⟨c2, s2, tl, o4, o5, r1, r2, r3, r4⟩ := for_str (R := []) (m := .int (m : Int))
    (A := _)
    (B := _)
    (la := la)
    (lb := lb)
    (sg := sg.cps.toList)
    wfr_nil e_la e_lb la_ok lb_ok (by decide) (by decide) (by decide) (by decide) sg0 sg1 sg2
    (rangeV 0 m) cells st [] none none hc (by simp) (by rw [hr]; simp; omega)
  rw [hr] at r4
  refine ⟨c2, s2, tl, r2, r3, by simp at r4; omega, gen_id0 ?_ rfl (wfr_nil _ _) refLt_str⟩
  rw [sL_cps] at r1
  have e0 : (Str.ofString "") = sL [] := rfl
  unfold runB m__law_string
  rw [show Str.ofString " !\"#$&'()*+,-./0123456789:;<=>?@ABCXYZ[]^_`abcdefghijklmnopqrstuvwxyz{|}~" = sg from rfl]
  generalize sg = sg at *
  have hI : ∀ (a b c d e : Option Val) (S : Store), mRng1 (mCons (mVar 1) mNil) [a, some (.int (m : Int)), b, c, d, e] S = some (rangeV 0 m, S) := fun a b c d e S => rng1_of (m := m) (S' := S) (by omega) (by simp)
  generalize mRng1 (mCons (mVar 1) mNil) = I at hI ⊢
  rw [s_then, s_set, s_tup, s_cons, s_c, bnd_ok, s_cons, s_c, bnd_ok, s_nil, bnd_ok, bnd_ok, bnd_ok, if_pos (by simpa using e2), bnd_ok]
  rw [show startE N__law_string [.ref 1, .int (m : Int)] = [some (.ref 1), some (.int (m : Int)), none, none, none, none] from rfl]
  rw [s_gt, if_pos (by rfl), s_gcons, s_gn, bnd_ok, s_gcons, s_gn, bnd_ok, s_gnil, bnd_ok]
  simp only [List.set_cons_succ, List.set_cons_zero, bnd_ok]
  rw [s_then, s_for, hI, bnd_ok, e0, r1]
  simp only [bnd_ok, s_ret, s_var, List.getElem?_cons_succ, List.getElem?_cons_zero]
end T5
namespace T5
open PySem PySem.Spec PyProof.Rows L2 Fx
theorem marks_bound : ∀ (f line col : Nat) (l : List Nat) (x : Mk), x ∈ marks f line col l → x.1 ≤ line + l.length ∧ x.2.1 ≤ col + l.length ∧ x.2.2.length ≤ l.length ∧ ∀ c ∈ x.2.2, c ∈ l
  | 0, _, _, _, x, h => by unfold marks at h; cases h
  | f + 1, _, _, [], x, h => by unfold marks at h; cases h
  | f + 1, line, col, c :: r, x, h => by
    obtain ⟨m1, m2, m3⟩ := mark_pos c r
    unfold marks at h
    rcases List.mem_append.mp h with h | h
    · split at h
      · cases h
      · rw [List.mem_singleton] at h
        subst h
        exact ⟨by simp, by simp, m2, fun c hc => m3.subset hc⟩
    · obtain ⟨b1, b2, b3, b4⟩ := marks_bound f _ _ _ x h
      rw [List.length_drop] at b1 b2 b3
      refine ⟨?_, ?_, by omega, fun c hc => List.mem_of_mem_drop (b4 c hc)⟩
      · split at b1 <;> omega
      · split at b2 <;> omega
theorem marks_count : ∀ (f line col : Nat) (l : List Nat), (marks f line col l).length ≤ l.length
  | 0, _, _, _ => by unfold marks; simp
  | f + 1, _, _, [] => by unfold marks; simp
  | f + 1, line, col, c :: r => by
    obtain ⟨m1, m2, m3⟩ := mark_pos c r
    unfold marks
    have ih := marks_count f (if mark (c :: r) = [10] then line + 1 else line) (if mark (c :: r) = [10] then 0 else col + (mark (c :: r)).length) ((c :: r).drop (mark (c :: r)).length)
    rw [List.length_drop] at ih
    rw [List.length_append]
    split <;> simp only [List.length_nil, List.length_cons] at ih m2 ⊢ <;> omega
theorem mark_no_sp {c : Nat} {r : List Nat} (h : c ≠ 32) : ∀ x ∈ mark (c :: r), (x != 32) = true := by
  have tw : ∀ (s : List Nat), 32 ∉ s → ∀ x ∈ List.takeWhile (inS s) (c :: r), (x != 32) = true := fun s hs x hx => by
    have := List.all_takeWhile (p := inS s) (l := c :: r)
    rw [List.all_eq_true] at this
    have h2 := this x hx
    unfold inS at h2
    rw [decide_eq_true_eq] at h2
    simp
    rintro rfl
    exact hs h2
  rw [mark]
  split
  · exact tw _ (by decide)
  · split
    · exact tw _ (by decide)
    · split
      · rename_i q
        rcases q with q | q <;> rw [q] <;> simp
      · simp [h]
theorem marks_join : ∀ (f line col : Nat) (l : List Nat), l.length ≤ f → ((marks f line col l).map fun x => x.2.2).flatten = l.filter fun x => x != 32
  | 0, _, _, [], h => by unfold marks; rfl
  | 0, _, _, _ :: _, h => by simp at h
  | f + 1, _, _, [], h => by unfold marks; rfl
  | f + 1, line, col, c :: r, h => by
    obtain ⟨m1, m2, m3⟩ := mark_pos c r
    obtain ⟨q, hq⟩ := m3
    have hd : (c :: r).drop (mark (c :: r)).length = q := by
      have e := List.drop_left (l₁ := mark (c :: r)) (l₂ := q)
      rw [hq] at e
      exact e
    have ih := marks_join f (if mark (c :: r) = [10] then line + 1 else line) (if mark (c :: r) = [10] then 0 else col + (mark (c :: r)).length) ((c :: r).drop (mark (c :: r)).length) (by rw [List.length_drop]; omega)
    unfold marks
    rw [List.map_append, List.flatten_append, ih, hd]
    by_cases h1 : mark (c :: r) = [32]
    · rw [if_pos h1]
      rw [h1] at hq
      rw [← hq]
      simp
    · rw [if_neg h1]
      have h2 : c ≠ 32 := fun z => h1 ((mark_sp c r).mpr z)
      rw [List.map_singleton, List.flatten_singleton]
      conv => rhs; rw [← hq]
      rw [List.filter_append, List.filter_eq_self.mpr (mark_no_sp h2)]
/-! ### as data -/
def markP (x : Mk) : PyData := .tuple [.int (x.1 : Nat), .int (x.2.1 : Nat), .str (sL x.2.2)]
theorem toPy_mark (x : Mk) : toPy (markV x) = some (markP x) := by
  unfold markV markP toPy
  simp [toPyL, toPy]
theorem toPyL_marks : ∀ l : List Mk, toPyL (l.map markV) = some (l.map markP)
  | [] => by rw [List.map_nil, toPyL]; rfl
  | x :: l => by
    rw [List.map_cons, toPyL, toPyL_marks l, toPy_mark]
    rfl
theorem py_marks (l : List Mk) (S : Store) : pyOf S (.tup (l.map markV)) = some (.tuple (l.map markP)) := by
  unfold pyOf topV
  show toPy (.tup (l.map markV)) = _
  unfold toPy
  rw [toPyL_marks]
  rfl
def small (x : Mk) : Prop := x.1 < 1000000 ∧ x.2.1 < 1000000 ∧ x.2.2.length ≤ 1000 ∧ ∀ c ∈ x.2.2, c < 128
theorem str_ok {l : List Nat} (h : ∀ c ∈ l, c < 128) : PyData.strOk (sL l) = true := by
  unfold PyData.strOk
  rw [Array.all_eq_true_iff_forall_mem]
  intro c hc
  have := h c (by rw [← cps_sL l]; exact Array.mem_toList_iff.mpr hc)
  rw [decide_eq_true_eq]
  omega
theorem lay_mark {x : Mk} (h : small x) : PyData.canLay0 (markP x) = true := by
  unfold markP
  simp [PyData.canLay0, PyData.canLayAll0, str_ok h.2.2.2]
theorem lay_marks : ∀ {l : List Mk}, (∀ x ∈ l, small x) → PyData.canLayAll0 (l.map markP) = true
  | [], _ => by rw [List.map_nil, PyData.canLayAll0]
  | x :: l, h => by
    rw [List.map_cons, PyData.canLayAll0, lay_mark (h x (by simp)), lay_marks fun y hy => h y (by simp [hy])]
    rfl
theorem depth_marks : ∀ (l : List Mk), PyData.depthAll (l.map markP) ≤ 1
  | [] => by rw [List.map_nil, PyData.depthAll]; omega
  | x :: l => by
    have := depth_marks l
    rw [List.map_cons, PyData.depthAll]
    have e : PyData.depth (markP x) = 1 := by unfold markP; simp [PyData.depth, PyData.depthAll]
    omega
theorem log_small {n : Nat} (h : n < 1000000) : n.log2 < 20 := by
  by_cases h0 : n = 0
  · subst h0; decide
  · exact (Nat.log2_lt h0).mpr (by omega)
theorem weight_mark {x : Mk} (h : small x) : PyData.weight (markP x) ≤ 1050 := by
  have l1 := log_small h.1
  have l2 := log_small h.2.1
  have e : ∀ n : Nat, n < 1000000 → PyData.weight (.int (n : Int)) ≤ 20 := fun n hn => by
    have := log_small hn
    rw [PyData.weight]
    split
    · omega
    · rw [Int.natAbs_natCast]; omega
  have a1 := e x.1 h.1
  have a2 := e x.2.1 h.2.1
  have a3 : PyData.weight (.str (sL x.2.2)) ≤ 1000 := by
    rw [PyData.weight]
    exact h.2.2.1
  unfold markP
  rw [PyData.weight, PyData.weightAll, PyData.weightAll, PyData.weightAll, PyData.weightAll]
  omega
theorem weight_marks : ∀ {l : List Mk}, (∀ x ∈ l, small x) → PyData.weightAll (l.map markP) ≤ l.length * 1051
  | [], _ => by rw [List.map_nil, PyData.weightAll]; omega
  | x :: l, h => by
    have h1 := weight_mark (h x (by simp))
    have h2 := weight_marks (l := l) fun y hy => h y (by simp [hy])
    rw [List.map_cons, PyData.weightAll, List.length_cons]
    omega
theorem ints_marks : ∀ {l : List Mk}, (∀ x ∈ l, small x) → PyData.intsShortAll 13 (l.map markP) = true
  | [], _ => by rw [List.map_nil, PyData.intsShortAll]
  | x :: l, h => by
    have hx := h x (by simp)
    have e : ∀ n : Nat, n < 1000000 → PyData.intsShort 13 (.int (n : Int)) = true := fun n hn => by
      rw [PyData.intsShort, decide_eq_true_eq]
      exact PyData.shown_int_le (by rw [Int.natAbs_natCast]; omega)
    rw [List.map_cons, PyData.intsShortAll, ints_marks fun y hy => h y (by simp [hy])]
    unfold markP
    simp [PyData.intsShort, PyData.intsShortAll]
    have a1 := e x.1 hx.1
    have a2 := e x.2.1 hx.2.1
    simp only [PyData.intsShort, decide_eq_true_eq] at a1 a2
    exact ⟨a1, a2⟩
theorem show_marks : ∀ {l : List Mk}, (∀ x ∈ l, small x) → PyData.showableAll (l.map markP) = true
  | [], _ => by rw [List.map_nil, PyData.showableAll]
  | x :: l, h => by
    have hx := h x (by simp)
    have l1 := log_small hx.1
    have l2 := log_small hx.2.1
    rw [List.map_cons, PyData.showableAll, show_marks fun y hy => h y (by simp [hy])]
    unfold markP
    simp [PyData.showable, PyData.showableAll]
    omega
theorem repr_marks {l : List Mk} {S : Store} (h : ∀ x ∈ l, small x) (hl : l.length ≤ 900) : ∃ z, vRepr [.tup (l.map markV)] S = some (.str z, S) := by
  have hw := weight_marks h
  have hdp := depth_marks l
  have hc : PyData.canLay0 (.tuple (l.map markP)) = true := by rw [PyData.canLay0]; exact lay_marks h
  have hd : PyData.depth (.tuple (l.map markP)) ≤ 2 := by rw [PyData.depth]; omega
  have hwt : PyData.weight (.tuple (l.map markP)) ≤ 2 ^ 20 := by rw [PyData.weight]; omega
  have hlay : PyData.layable0 (.tuple (l.map markP)) = true := by
    unfold PyData.layable0
    rw [hc, decide_eq_true (show PyData.depth _ ≤ 64 by omega), decide_eq_true hwt]
    rfl
  have hs := PyData.shown_fits_of_layable0 (B := 13) (by decide) (by decide) hlay (by rw [PyData.intsShort]; exact ints_marks h)
  have ok : reprOk (.tuple (l.map markP)) = true := by
    unfold reprOk
    rw [decide_eq_true (show PyData.depth _ ≤ 60 by omega), decide_eq_true hs, PyData.showable, show_marks h, PyData.hasDict_of_canLay _ hc]
    rfl
  refine ⟨PyData.shown (.tuple (l.map markP)), ?_⟩
  show (pyOf S _).bind _ = _
  rw [py_marks, Option.bind_some, if_pos ok]
theorem shaped_marks {l : List Mk} (h : ∀ x ∈ l, small x) : SeqAt.shaped (.tuple (l.map markP)) = true := by
  have hdp := depth_marks l
  unfold SeqAt.shaped
  rw [PyData.canLay0, lay_marks h, decide_eq_true (show PyData.depth _ ≤ 64 by rw [PyData.depth]; omega)]
  rfl
theorem shaped_mark {x : Mk} (h : small x) : SeqAt.shaped (markP x) = true := by
  unfold SeqAt.shaped
  have e : PyData.depth (markP x) = 1 := by unfold markP; simp [PyData.depth, PyData.depthAll]
  rw [lay_mark h, e]
  rfl
theorem self_marks {l : List Mk} {S : Store} (k : Bool) (h : ∀ x ∈ l, small x) : vEqN k (.tup (l.map markV)) (.tup (l.map markV)) S = some (.bl (if k then false else true), S) := by
  show (pyOf S _).bind _ = _
  have hs := shaped_marks h
  rw [py_marks]
  show (if (SeqAt.shaped _ && SeqAt.shaped _) = true then _ else _) = _
  rw [hs, if_pos (by rfl), SeqAt.eqv_refl _ (SeqAt.canLay_of_shaped hs)]
  cases k <;> rfl
theorem self_mark {x : Mk} {S : Store} (k : Bool) (h : small x) : vEqN k (markV x) (markV x) S = some (.bl (if k then false else true), S) := by
  have hs := shaped_mark h
  have hp : pyOf S (markV x) = some (markP x) := by
    unfold pyOf topV
    exact toPy_mark x
  have e : vEqN k (markV x) (markV x) S = (pyOf S (markV x)).bind fun p => (pyOf S (markV x)).bind fun q => if (SeqAt.shaped p && SeqAt.shaped q) = true then some (.bl (if k then !PyData.eqv p q else PyData.eqv p q), S) else none := by
    unfold markV
    rfl
  rw [e, hp]
  show (if (SeqAt.shaped _ && SeqAt.shaped _) = true then _ else _) = _
  rw [hs, if_pos (by rfl), SeqAt.eqv_refl _ (SeqAt.canLay_of_shaped hs)]
  cases k <;> rfl
end T5
namespace T5
open PySem PySem.Spec PyProof.Rows L2 Fx
theorem lc_third {S : Store} {a0 a1 a2 a3 a4 a5 : Option Val} : ∀ (l : List Mk) (o : Option Val), lcL (gN 6) mYes (mBin vIx (mVar 6) (mC (.int 2))) [a0, a1, a2, a3, a4, a5, o] (l.map markV) S = some ((l.map fun x => sL x.2.2).map Val.str, S)
  | [], o => rfl
  | x :: l, o => by
    have ih := lc_third (S := S) (a0 := a0) (a1 := a1) (a2 := a2) (a3 := a3) (a4 := a4) (a5 := a5) l o
    rw [List.map_cons, lc_cons]
    simp only [List.map_map] at ih
    simp [markV, ih]
theorem strs_of : ∀ ys : List Str, strsOf (ys.map Val.str) = some ys
  | [] => rfl
  | y :: ys => by
    rw [List.map_cons, strsOf, strs_of ys]
    rfl
theorem join_of {ys : List Str} {S : Store} (h : (ys.map (·.length)).sum ≤ 16777216) : vJoin (.str (Str.ofString "")) [.fro (ys.map Val.str)] S = some (.str (sL ((ys.map fun y => y.cps.toList).flatten)), S) := by
  show (strsOf (ys.map Val.str)).bind _ = _
  rw [strs_of, Option.bind_some, ← Fx.join_nil]
  have e : (Str.ofString "").length = 0 := rfl
  rw [if_pos (by rw [e, Nat.mul_zero, Nat.add_zero]; exact h)]
theorem repl_of {t : List Nat} {S : Store} (h : t.length ≤ 10000) (env : VEnv) (e : ME) (he : e env S = some (.str (sL t), S)) : mRepl (Str.ofString " ") (Str.ofString "") e env S = some (.str (sL (t.filter fun a => a != 32)), S) := by
  rw [s_repl, he, bnd_ok]
  have e0 : (Str.ofString "").length = 0 := rfl
  show (if _ then _ else _) = _
  rw [if_pos (by rw [e0, Nat.mul_zero, len_sL]; omega), replace_del (c := 32) rfl, cps_sL]
theorem small_marks {t : List Nat} (ht : ∀ c ∈ t, c < 128) (hl : t.length ≤ 800) : ∀ x ∈ marks t.length 0 0 t, small x := fun x hx => by
  obtain ⟨b1, b2, b3, b4⟩ := marks_bound _ _ _ _ x hx
  exact ⟨by omega, by omega, by omega, fun c hc => ht c (b4 c hc)⟩
theorem pick_int {cells : List Int} {st : Int} (hc : cells.length ≤ 60) : ∃ (m : Nat) (cells' : List Int) (st' : Int), m ≤ 100 ∧ cells'.length ≤ 60 ∧ M__law_pick [.ref 1, .fro [.int 9, .int 25, .int 3, .int 40, .int 0, .int 1]] (hs cells st []) = some (.int (m : Int), hs cells' st' []) := by
  obtain ⟨x, c1, s1, hc1, hx, hp⟩ := call_pick (R := []) (cells := cells) (st := st) (l := [.int 9, .int 25, .int 3, .int 40, .int 0, .int 1]) wfr_nil hc (by simp) (by simp) (by simp)
  have q : ∃ m : Nat, m ≤ 100 ∧ x = .int (m : Int) := by
    simp only [List.mem_cons, List.mem_nil_iff, or_false] at hx
    rcases hx with rfl | rfl | rfl | rfl | rfl | rfl
    · exact ⟨9, by decide, rfl⟩
    · exact ⟨25, by decide, rfl⟩
    · exact ⟨3, by decide, rfl⟩
    · exact ⟨40, by decide, rfl⟩
    · exact ⟨0, by decide, rfl⟩
    · exact ⟨1, by decide, rfl⟩
  obtain ⟨m, hm, rfl⟩ := q
  exact ⟨m, c1, s1, hm, hc1, hp⟩
theorem law_body {cells : List Int} {st : Int} {a0 o2 o3 o4 o5 o6 : Option Val} (hc : cells.length ≤ 60) : ∃ cells' st' o3' o4', cells'.length ≤ 60 ∧ ((mThen (mSet (mCall M__law_string (mCons (mVar 1) (mCons (mCall M__law_pick (mCons (mVar 1) (mCons (mFro (mCons (mC (.int 9)) (mCons (mC (.int 25)) (mCons (mC (.int 3)) (mCons (mC (.int 40)) (mCons (mC (.int 0)) (mCons (mC (.int 1)) (mNil)))))))) (mNil)))) (mNil)))) (gN 3))
 (mThen (mSet (mCall M__law_marks (mCons (mVar 3) (mNil))) (gN 4))
 (mThen (mWhen (mOr (mTest (mBin vNe (mCall vRepr (mCons (mCall M_marks_in (mCons (mVar 3) (mNil))) (mNil))) (mCall vRepr (mCons (mVar 4) (mNil))))) (mTest (mBin vNe (mCall vRepr (mCons (mCall M_marks_in (mKw [0] mNil (mCons (mVar 3) (mNil)))) (mNil))) (mCall vRepr (mCons (mVar 4) (mNil)))))) (mRet (mC (.bl false))) (mSkip))
 (mWhen (mTest (mBin vNe (mMeth "str" vJoin (mC (.str (Str.ofString ""))) (mCons (mLc false [6] (mItems (mVar 4)) (gN 6) (mYes) (mBin vIx (mVar 6) (mC (.int 2)))) mNil)) (mRepl (Str.ofString " ") (Str.ofString "") (mVar 3)))) (mRet (mC (.bl false))) (mSkip)))))) [a0, some (.ref 1), o2, o3, o4, o5, o6] (hs cells st []) = some (.nx [a0, some (.ref 1), o2, o3', o4', o5, o6], hs cells' st' []) := by
  obtain ⟨m, c1, s1, hm, hc1, hp⟩ := pick_int (st := st) hc
  obtain ⟨c2, s2, t, hc2, ht, hl, hstr⟩ := call_string (st := s1) hc1 hm
  have hsz : sizeLine = 16777216 := sizeLine_eq
  have w := wfr_nil c2 s2
  have hlm := call_law_marks (t := t) w (by omega)
  have hmi := call_marks_in (t := t) w (by omega)
  have hsm := small_marks ht (by omega)
  have hcnt := marks_count t.length 0 0 t
  have hjn := marks_join t.length 0 0 t (Nat.le_refl _)
  obtain ⟨ms, hms⟩ : ∃ ms, marks t.length 0 0 t = ms := ⟨_, rfl⟩
  rw [hms] at hlm hmi hsm hcnt hjn
  obtain ⟨z, hz⟩ := repr_marks (S := hs c2 s2 []) hsm (by omega)
  have hj2 : ((ms.map fun x => sL x.2.2).map fun y => y.cps.toList).flatten = t.filter fun a => a != 32 := by
    rw [List.map_map, ← hjn]
    rfl
  have hj := join_of (ys := ms.map fun x => sL x.2.2) (S := hs c2 s2 []) (by
    have e : ((ms.map fun x => sL x.2.2).map (·.length)).sum = ((ms.map fun x => sL x.2.2).map fun y => y.cps.toList).flatten.length := by
      rw [List.length_flatten, List.map_map, List.map_map, List.map_map]
      rfl
    rw [e, hj2]
    have := List.length_filter_le (fun a => a != 32) t
    omega)
  rw [hj2] at hj
  have e6 : 6 ≤ sizeLine := by omega
  have e7 : ms.length ≤ sizeLine := by omega
  refine ⟨c2, s2, some (.str (sL t)), some (.tup (ms.map markV)), hc2, ?_⟩
  have h3 := lc_third (S := hs c2 s2 []) (a0 := a0) (a1 := some (.ref 1)) (a2 := o2) (a3 := some (.str (sL t))) (a4 := some (.tup (ms.map markV))) (a5 := o5) ms none
  have hr := repl_of (S := hs c2 s2 []) (t := t) (by omega) [a0, some (.ref 1), o2, some (.str (sL t)), some (.tup (ms.map markV)), o5, o6] (mVar 3) (by simp)
  generalize hy : (ms.map fun x => sL x.2.2).map Val.str = ys at h3 hj
  have e8 : ys.length ≤ sizeLine := by rw [← hy]; simpa using e7
  simp [e6, hp, hstr, hlm, hmi, hz, pick, wipeE, h3, e8, hj, hr, -s_repl, -e_sp]
theorem law_loop {B : MS} (hB : ∀ (cells : List Int) (st : Int) (a0 o2 o3 o4 o5 o6 : Option Val), cells.length ≤ 60 → ∃ cells' st' o3' o4', cells'.length ≤ 60 ∧ B [a0, some (.ref 1), o2, o3, o4, o5, o6] (hs cells st []) = some (.nx [a0, some (.ref 1), o2, o3', o4', o5, o6], hs cells' st' [])) :
    ∀ (items : List Val) (cells : List Int) (st : Int) (a0 o2 o3 o4 o5 o6 : Option Val), cells.length ≤ 60 → ∃ cells' st' o2' o3' o4', cells'.length ≤ 60 ∧ forL (gN 2) B items [a0, some (.ref 1), o2, o3, o4, o5, o6] (hs cells st []) = some (.nx [a0, some (.ref 1), o2', o3', o4', o5, o6], hs cells' st' [])
  | [], cells, st, a0, o2, o3, o4, o5, o6, hc => ⟨cells, st, o2, o3, o4, hc, rfl⟩
  | x :: items, cells, st, a0, o2, o3, o4, o5, o6, hc => by
    obtain ⟨c1, s1, b3, b4, hc1, h1⟩ := hB cells st a0 (some x) o3 o4 o5 o6 hc
    obtain ⟨c2, s2, d2, d3, d4, hc2, h2⟩ := law_loop hB items c1 s1 a0 (some x) b3 b4 o5 o6 hc1
    refine ⟨c2, s2, d2, d3, d4, hc2, ?_⟩
    rw [← h2, for_cons, s_gn, bnd_ok]
    simp only [List.set_cons_succ, List.set_cons_zero]
    rw [h1, bnd_ok]
end T5
namespace T5
open PySem PySem.Spec PyProof.Rows L2 Fx
theorem mul_one {c n : Nat} {S : Store} (h : 2 ≤ n) (h2 : n < 1000) : vMul (.str (sL [c])) (.int (n : Int)) S = some (.str (sL (List.replicate n c)), S) := by
  rw [v_mulS _ _ _ h (by omega) (by simp) (by rw [sizeLine_eq, len_sL]; simp; omega)]
  congr 3
  apply str_ext
  unfold repS
  show (List.replicate n [c]).flatten = _
  rw [cps_sL]
  clear h h2
  induction n with
  | zero => rfl
  | succ n ih => rw [List.replicate_succ, List.flatten_cons, ih]; rfl
def LONG : List Nat := List.replicate 300 97 ++ List.replicate 300 57 ++ List.replicate 30 10 ++ List.replicate 7 60 ++ [61]
def LM : List Mk := marks LONG.length 0 0 LONG
theorem LM_last : LM.getLast? = some (30, 6, [60, 61]) := by decide +kernel
theorem LM_take : LM.take 2 = [(0, 0, List.replicate 300 97), (0, 300, List.replicate 300 57)] := by decide +kernel
theorem LONG_len : LONG.length = 638 := by decide +kernel
theorem LONG_ok : ∀ c ∈ LONG, c < 128 := by decide +kernel
theorem LM_small : ∀ x ∈ LM, small x := small_marks LONG_ok (by rw [LONG_len]; decide)
theorem ends_e : marks 0 0 0 [] = [] := rfl
theorem ends_m : marks 9 0 0 [32, 10, 32, 97, 39, 62, 61, 45, 49] = [(0, 1, [10]), (1, 1, [97]), (1, 2, [39]), (1, 3, [62, 61]), (1, 5, [45]), (1, 6, [49])] := by decide +kernel
theorem in_long {S : Store} (w : Wf S) : M_marks_in [.str (sL LONG)] S = some (.tup (LM.map markV), S) := call_marks_in w (by rw [LONG_len, sizeLine_eq]; decide)
theorem in_nil {S : Store} (w : Wf S) : M_marks_in [.str (Str.ofString "")] S = some (.tup [], S) := call_marks_in (t := []) w (by simp)
theorem in_few {S : Store} (w : Wf S) : M_marks_in [.str (Str.ofString " \n a'>=-1")] S = some (.tup ([((0, 1, [10]) : Mk), (1, 1, [97]), (1, 2, [39]), (1, 3, [62, 61]), (1, 5, [45]), (1, 6, [49])].map markV), S) := by
  rw [← ends_m]
  exact call_marks_in (t := [32, 10, 32, 97, 39, 62, 61, 45, 49]) w (by rw [sizeLine_eq]; decide)
theorem v_ixTL {S : Store} {l : List Val} {x : Val} (h : l.getLast? = some x) : vIx (.tup l) (.int (-1)) S = some (x, S) := by
  have hl : l ≠ [] := by rintro rfl; cases h
  show (L2.atI l (-1)).map _ = _
  rw [atI_last l hl, h]
  rfl
theorem LMv_last : (LM.map markV).getLast? = some (markV (30, 6, [60, 61])) := by
  rw [List.getLast?_map, LM_last]
  rfl
theorem LMv_take : cutD (LM.map markV) none (some 2) = [((0, 0, List.replicate 300 97) : Mk), (0, 300, List.replicate 300 57)].map markV := by
  rw [← LM_take, List.map_take]
  exact cutD_to _ 2
theorem small_two : ∀ x ∈ ([(0, 0, List.replicate 300 97), (0, 300, List.replicate 300 57)] : List Mk), small x := by
  rw [← LM_take]
  exact fun x hx => LM_small x (List.mem_of_mem_take hx)
theorem small_six : ∀ x ∈ ([((0, 1, [10]) : Mk), (1, 1, [97]), (1, 2, [39]), (1, 3, [62, 61]), (1, 5, [45]), (1, 6, [49])] : List Mk), small x := by
  rw [← ends_m]
  exact small_marks (t := [32, 10, 32, 97, 39, 62, 61, 45, 49]) (by decide) (by decide)
theorem small_last : small (30, 6, [60, 61]) := ⟨by decide, by decide, by decide, by decide⟩
theorem sz (n : Nat) (h : n ≤ 1000) : n ≤ sizeLine := by rw [sizeLine_eq]; omega
theorem law_long {a0 a1 a2 a3 a4 a5 a6 : Option Val} {S : Store} : (mSet (mBin vAdd (mBin vAdd (mBin vAdd (mBin vAdd (mBin vMul (mC (.str (Str.ofString "a"))) (mC (.int 300))) (mBin vMul (mC (.str (Str.ofString "9"))) (mC (.int 300)))) (mBin vMul (mC (.str (Str.ofString "\n"))) (mC (.int 30)))) (mBin vMul (mC (.str (Str.ofString "<"))) (mC (.int 7)))) (mC (.str (Str.ofString "=")))) (gN 5)) [a0, a1, a2, a3, a4, a5, a6] S = some (.nx [a0, a1, a2, a3, a4, some (.str (sL LONG)), a6], S) := by
  have m1 := mul_one (c := 97) (n := 300) (S := S) (by decide) (by decide)
  have m2 := mul_one (c := 57) (n := 300) (S := S) (by decide) (by decide)
  have m3 := mul_one (c := 10) (n := 30) (S := S) (by decide) (by decide)
  have m4 := mul_one (c := 60) (n := 7) (S := S) (by decide) (by decide)
  have e60 : Str.ofString "<" = sL [60] := rfl
  rw [show ((300 : Nat) : Int) = 300 from rfl] at m1 m2
  rw [show ((30 : Nat) : Int) = 30 from rfl] at m3
  rw [show ((7 : Nat) : Int) = 7 from rfl] at m4
  have z1 := sz 600 (by decide)
  have z2 := sz 630 (by decide)
  have z3 := sz 637 (by decide)
  have z4 := sz 638 (by decide)
  simp [m1, m2, m3, m4, e60, z1, z2, z3, z4, sL_app, LONG]
theorem law_when {a0 a1 a2 a3 a4 a6 : Option Val} {S : Store} (w : Wf S) : (mWhen (mOr (mTest (mBin vNe (mBin vIx (mCall M_marks_in (mCons (mVar 5) (mNil))) (mUn vNeg (mC (.int 1)))) (mTup (mCons (mC (.int 30)) (mCons (mC (.int 6)) (mCons (mC (.str (Str.ofString "<="))) (mNil))))))) (mTest (mBin vNe (mSl (vSl false) (mCall M_marks_in (mCons (mVar 5) (mNil))) (mNo) (mPart (mC (.int 2)))) (mTup (mCons (mTup (mCons (mC (.int 0)) (mCons (mC (.int 0)) (mCons (mBin vMul (mC (.str (Str.ofString "a"))) (mC (.int 300))) (mNil))))) (mCons (mTup (mCons (mC (.int 0)) (mCons (mC (.int 300)) (mCons (mBin vMul (mC (.str (Str.ofString "9"))) (mC (.int 300))) (mNil))))) (mNil))))))) (mRet (mC (.bl false))) (mSkip)) [a0, a1, a2, a3, a4, some (.str (sL LONG)), a6] S = some (.nx [a0, a1, a2, a3, a4, some (.str (sL LONG)), a6], S) := by
  have m1 := mul_one (c := 97) (n := 300) (S := S) (by decide) (by decide)
  have m2 := mul_one (c := 57) (n := 300) (S := S) (by decide) (by decide)
  rw [show ((300 : Nat) : Int) = 300 from rfl] at m1 m2
  have z3 := sz 3 (by decide)
  have z2 := sz 2 (by decide)
  have i1 := in_long w
  have i2 := v_ixTL (S := S) LMv_last
  have i3 := LMv_take
  have q1 := self_mark (S := S) true small_last
  have q2 := self_marks (S := S) true small_two
  have e1 : Val.tup [.int 30, .int 6, .str (Str.ofString "<=")] = markV (30, 6, [60, 61]) := rfl
  have e2 : Val.tup [.tup [.int 0, .int 0, .str (sL (List.replicate 300 97))], .tup [.int 0, .int 300, .str (sL (List.replicate 300 57))]] = .tup ([((0, 0, List.replicate 300 97) : Mk), (0, 300, List.replicate 300 57)].map markV) := rfl
  generalize [((0, 0, List.replicate 300 97) : Mk), (0, 300, List.replicate 300 57)].map markV = two at *
  generalize markV (30, 6, [60, 61]) = one at *
  generalize List.replicate 300 97 = r1 at *
  generalize List.replicate 300 57 = r2 at *
  generalize LM.map markV = lm at *
  simp [m1, m2, z3, z2, i1, i2, i3, e1, e2, q1, q2]
theorem law_ret {env : VEnv} {S : Store} (w : Wf S) : (mRet (mAndV (mBin vEq (mCall M_marks_in (mCons (mC (.str (Str.ofString ""))) (mNil))) (mTup (mNil))) (mBin vEq (mCall M_marks_in (mCons (mC (.str (Str.ofString " \n a'>=-1"))) (mNil))) (mTup (mCons (mTup (mCons (mC (.int 0)) (mCons (mC (.int 1)) (mCons (mC (.str (Str.ofString "\n"))) (mNil))))) (mCons (mTup (mCons (mC (.int 1)) (mCons (mC (.int 1)) (mCons (mC (.str (Str.ofString "a"))) (mNil))))) (mCons (mTup (mCons (mC (.int 1)) (mCons (mC (.int 2)) (mCons (mC (.str (Str.ofString "'"))) (mNil))))) (mCons (mTup (mCons (mC (.int 1)) (mCons (mC (.int 3)) (mCons (mC (.str (Str.ofString ">="))) (mNil))))) (mCons (mTup (mCons (mC (.int 1)) (mCons (mC (.int 5)) (mCons (mC (.str (Str.ofString "-"))) (mNil))))) (mCons (mTup (mCons (mC (.int 1)) (mCons (mC (.int 6)) (mCons (mC (.str (Str.ofString "1"))) (mNil))))) (mNil))))))))))) env S = some (.rt (.bl true), S) := by
  have i1 := in_nil w
  have i2 := in_few w
  have q1 : vEqN false (.tup []) (.tup []) S = some (.bl true, S) := self_marks (l := []) (S := S) false (by simp)
  have q2 := self_marks (S := S) false small_six
  have e : Val.tup [.tup [.int 0, .int 1, .str (Str.ofString "\n")], .tup [.int 1, .int 1, .str (Str.ofString "a")], .tup [.int 1, .int 2, .str (Str.ofString "'")], .tup [.int 1, .int 3, .str (Str.ofString ">=")], .tup [.int 1, .int 5, .str (Str.ofString "-")], .tup [.int 1, .int 6, .str (Str.ofString "1")]] = .tup ([((0, 1, [10]) : Mk), (1, 1, [97]), (1, 2, [39]), (1, 3, [62, 61]), (1, 5, [45]), (1, 6, [49])].map markV) := rfl
  generalize [((0, 1, [10]) : Mk), (1, 1, [97]), (1, 2, [39]), (1, 3, [62, 61]), (1, 5, [45]), (1, 6, [49])].map markV = six at *
  have z3 := sz 3 (by decide)
  have z6 := sz 6 (by decide)
  simp [i1, i2, q1, q2, e, z3, z6, -e_a, -e_z, -e_0, -e_9, -e_eq, -e_sp, -e_nl]
theorem len_range (ns : List Int) : ∃ n : Nat, n ≤ 5 ∧ ∀ (b c d e f g : Option Val) (S : Store), (mCons (mBin vAdd (mC (.int 4)) (mCall vInt (mCons (mBin vGt (mCall vLen (mCons (mVar 0) (mNil))) (mC (.int 1))) (mNil)))) (mNil)) [some (.scr (ns.map Val.int)), b, c, d, e, f, g] S = some ([.int (n : Int)], S) := by
  by_cases h : (1 : Int) < (ns.length : Int)
  · refine ⟨5, by decide, fun b c d e f g S => ?_⟩
    simp [h]
  · refine ⟨4, by decide, fun b c d e f g S => ?_⟩
    simp [h]
theorem call_law (ns : List Int) : M_law [.scr (ns.map Val.int)] [] = some (.bl true, []) := by
  obtain ⟨c1, s1, h1, hc1⟩ := call_heap (ns := ns)
  obtain ⟨n, hn, hr⟩ := len_range ns
  obtain ⟨c2, s2, d2, d3, d4, hc2, h2⟩ := law_loop (fun cells st a0 o2 o3 o4 o5 o6 hc => law_body hc) (rangeV 0 n) c1 s1 (some (.scr (ns.map Val.int))) none none none none none hc1
  have w := wfr_nil c2 s2
  have hI : ∀ (b c d e f g : Option Val) (S : Store), mRng1 (mCons (mBin vAdd (mC (.int 4)) (mCall vInt (mCons (mBin vGt (mCall vLen (mCons (mVar 0) (mNil))) (mC (.int 1))) (mNil)))) (mNil)) [some (.scr (ns.map Val.int)), b, c, d, e, f, g] S = some (rangeV 0 n, S) := fun b c d e f g S => rng1_of (m := n) (S' := S) (by omega) (hr b c d e f g S)
  unfold M_law
  refine gen_id (S1 := []) (J := hs c2 s2 []) ?_ rfl Wf.nil refLt_bl
  unfold runB m_law
  rw [show startE N_law [.scr (ns.map Val.int)] = [some (.scr (ns.map Val.int)), none, none, none, none, none, none] from rfl]
  rw [s_then, s_set, s_call, s_cons, s_var]
  simp only [List.getElem?_cons_zero, bnd_ok, s_nil]
  rw [h1, bnd_ok, s_gn, bnd_ok, bnd_ok]
  simp only [List.set_cons_succ, List.set_cons_zero]
  rw [s_then, s_for, hI, bnd_ok, h2, bnd_ok]
  simp only []
  rw [s_then, law_long, bnd_ok]
  simp only []
  rw [s_then, law_when w, bnd_ok]
  simp only []
  rw [law_ret w, bnd_ok]
  rfl
end T5
namespace T5
open PySem PySem.Spec PyProof.Rows L2 Fx
theorem has_run_end {P : Program} {w : World} {K : Frg} {mg : Str → Option Value} {base : Heap} (T : Top K mg) : Has P w K mg base 1 "run_end" (topS 4) ["text", "at", "signs"] M_run_end :=
  has_of (N := N_run_end) (m := m_run_end) T.d_run_end sc_run_end (fun _ _ _ _ _ _ us hl => match us, hl with | [_, _, _], _ => rfl) (fun f cdv A outer s H E hr hgd =>
  bi_cons (si_while PassesOwn.never (ti_w (wi_and (ti_cmp op2_lt (ei_v 1) (ei_callB opc_len (by rfl) T.z_len (by decide +kernel) (ai_cons (ei_v 0) (ai_nil))) (nomark _)) (wi_and1 (ti_cmp op2_in (ei_ix (ei_v 0) (ei_v 1)) (ei_v 2) (by rfl)))))
 (bi_one (si_set (i := 1) sc_run_end.nd rfl (.inl rfl) (ei_op op2_add (ei_v 1) (ei_int)))))
 (bi_one (si_ret (ei_v 1)))) ref_gen
theorem has_mark_at {P : Program} {w : World} {K : Frg} {mg : Str → Option Value} {base : Heap} (T : Top K mg) (h_run_end : Has P w K mg base 1 "run_end" (topS 4) ["text", "at", "signs"] M_run_end) : Has P w K mg base 2 "mark_at" (topS 5) ["text", "at"] M_mark_at :=
  has_of (N := N_mark_at) (m := m_mark_at) T.d_mark_at sc_mark_at (fun _ _ _ _ _ _ us hl => match us, hl with | [_, _], _ => rfl) (fun f cdv A outer s H E hr hgd =>
  bi_cons (si_if (ti_cmp op2_in (ei_ix (ei_v 0) (ei_v 1)) (ei_gc T.c_LETTERS (by rfl)) (by rfl))
 (bi_one (si_ret (ei_sl false (ei_v 0) (oi_some (ei_v 1)) (oi_some (ei_has h_run_end hr (by decide) hgd (by rfl) (ai_cons (ei_v 0) (ai_cons (ei_v 1) (ai_cons (ei_gc T.c_LETTERS (by rfl)) (ai_nil)))) (len_cons (len_cons (len_cons len_nil))))))))
 (bi_nil))
 (bi_cons (si_if (ti_cmp op2_in (ei_ix (ei_v 0) (ei_v 1)) (ei_gc T.c_DIGITS (by rfl)) (by rfl))
 (bi_one (si_ret (ei_sl false (ei_v 0) (oi_some (ei_v 1)) (oi_some (ei_has h_run_end hr (by decide) hgd (by rfl) (ai_cons (ei_v 0) (ai_cons (ei_v 1) (ai_cons (ei_gc T.c_DIGITS (by rfl)) (ai_nil)))) (len_cons (len_cons (len_cons len_nil))))))))
 (bi_nil))
 (bi_one (si_ret (ei_if (ti_cmp op2_in (ei_sl false (ei_v 0) (oi_some (ei_v 1)) (oi_some (ei_op op2_add (ei_v 1) (ei_int)))) (ei_gc T.c_DOUBLE (by rfl)) (by rfl)) (ei_sl false (ei_v 0) (oi_some (ei_v 1)) (oi_some (ei_op op2_add (ei_v 1) (ei_int)))) (ei_ix (ei_v 0) (ei_v 1))))))) ref_gen
theorem has_marks_in {P : Program} {w : World} {K : Frg} {mg : Str → Option Value} {base : Heap} (T : Top K mg) (h_mark_at : Has P w K mg base 2 "mark_at" (topS 5) ["text", "at"] M_mark_at) : Has P w K mg base 3 "marks_in" (topS 6) ["text"] M_marks_in :=
  has_of (N := N_marks_in) (m := m_marks_in) T.d_marks_in sc_marks_in (fun _ _ _ _ _ _ us hl => match us, hl with | [_], _ => rfl) (fun f cdv A outer s H E hr hgd =>
  bi_cons (si_asg (ei_tup (ai_cons (ei_lst (ai_nil)) (ai_cons (ei_int) (ai_cons (ei_int) (ai_cons (ei_int) (ai_nil)))))) (gi_t rfl (gsi_cons (gi_n sc_marks_in.nd rfl (by first | exact Or.inl rfl | exact Or.inr rfl)) (gsi_cons (gi_n sc_marks_in.nd rfl (by first | exact Or.inl rfl | exact Or.inr rfl)) (gsi_cons (gi_n sc_marks_in.nd rfl (by first | exact Or.inl rfl | exact Or.inr rfl)) (gsi_cons (gi_n sc_marks_in.nd rfl (by first | exact Or.inl rfl | exact Or.inr rfl)) (gsi_nil)))))))
 (bi_cons (si_while PassesOwn.never (ti_cmp op2_lt (ei_v 4) (ei_callB opc_len (by rfl) T.z_len (by decide +kernel) (ai_cons (ei_v 0) (ai_nil))) (nomark _))
 (bi_cons (si_set (i := 5) sc_marks_in.nd rfl (.inl rfl) (ei_has h_mark_at hr (by decide) hgd (by rfl) (ai_cons (ei_v 0) (ai_cons (ei_v 4) (ai_nil))) (len_cons (len_cons len_nil))))
 (bi_cons (si_if (ti_cmp (op2_ne hr.units) (ei_v 5) (ei_str) (nomark _))
 (bi_one (si_expr (ei_bm PySem.F.plainAttrs_list PySem.F.slot_list_append PySem.F.type_list_append opm_append (ei_v 1) (ai_cons (ei_tup (ai_cons (ei_v 2) (ai_cons (ei_op op2_sub (ei_v 4) (ei_v 3)) (ai_cons (ei_v 5) (ai_nil))))) (ai_nil)))))
 (bi_nil))
 (bi_cons (si_set (i := 4) sc_marks_in.nd rfl (.inl rfl) (ei_op op2_add (ei_v 4) (ei_callB opc_len (by rfl) T.z_len (by decide +kernel) (ai_cons (ei_v 5) (ai_nil)))))
 (bi_one (si_if (ti_cmp (op2_eq hr.units) (ei_v 5) (ei_str) (nomark _))
 (bi_one (si_par (i := 2) (j := 3) rfl sc_marks_in.nd rfl rfl (by decide) rfl rfl (ai_cons (ei_op op2_add (ei_v 2) (ei_int)) (ai_cons (ei_v 4) (ai_nil))) (by rfl)))
 (bi_nil)))))))
 (bi_one (si_ret (ei_callT opc_tuple (by rfl) T.z_tuple (by decide +kernel) (ai_cons (ei_v 1) (ai_nil))))))) ref_gen
theorem has__law_heap {P : Program} {w : World} {K : Frg} {mg : Str → Option Value} {base : Heap} (T : Top K mg) : Has P w K mg base 1 "_law_heap" (topS 8) ["script"] M__law_heap :=
  has_of (N := N__law_heap) (m := m__law_heap) T.d__law_heap sc__law_heap (fun _ _ _ _ _ _ us hl => match us, hl with | [_], _ => rfl) (fun f cdv A outer s H E hr hgd =>
  bi_cons (si_par (i := 2) (j := 3) rfl sc__law_heap.nd rfl rfl (by decide) rfl rfl (ai_cons (ei_lc false (own := [("cell", 1)]) rfl sc__law_heap.nd (ii_v (ei_sl false (ei_v 0) (oi_none) (oi_some (ei_int)))) (blkOk_by (own := [("cell", 1)]) (N := N__law_heap) (sc := defScope (topS 8)) (by decide +kernel)) (fun _ _ _ _ _ => gi_n sc__law_heap.nd rfl (by first | exact Or.inl rfl | exact Or.inr rfl)) (fun _ _ _ _ _ => tsi_nil) (fun _ _ _ _ _ => ei_op op2_add (ei_op op2_mul (ei_int) (ei_callB opc_abs (by rfl) T.z_abs (by decide +kernel) (ai_cons (ei_v 1) (ai_nil)))) (ei_callT opc_int (by rfl) T.z_int (by decide +kernel) (ai_cons (ei_cmp op2_lt (ei_v 1) (ei_int) (nomark _)) (ai_nil)))) (by decide)) (ai_cons (ei_int) (ai_nil))) (by rfl))
 (bi_cons (si_for PassesOwn.never rfl (ii_v (ei_v 2)) (gi_n sc__law_heap.nd rfl (by first | exact Or.inl rfl | exact Or.inr rfl))
 (bi_one (si_set (i := 3) sc__law_heap.nd rfl (.inl rfl) (ei_op op2_mod (ei_callT opc_int (by rfl) T.z_int (by decide +kernel) (ai_cons (ei_op op2_add (ei_op op2_add (ei_op op2_mul (ei_v 3) (ei_int)) (ei_op op2_mod (ei_callT opc_int (by rfl) T.z_int (by decide +kernel) (ai_cons (ei_v 1) (ai_nil))) (ei_int))) (ei_int)) (ai_nil))) (ei_int)))))
 (bi_one (si_ret (ei_lst (ai_cons (ei_rev true (ei_lc false (own := [("cell", 1)]) rfl sc__law_heap.nd (ii_v (ei_v 2)) (blkOk_by (own := [("cell", 1)]) (N := N__law_heap) (sc := defScope (topS 8)) (by decide +kernel)) (fun _ _ _ _ _ => gi_n sc__law_heap.nd rfl (by first | exact Or.inl rfl | exact Or.inr rfl)) (fun _ _ _ _ _ => tsi_one (ti_cmp op2_ge (ei_v 1) (ei_op op2_pow (ei_int) (ei_int)) (nomark _))) (fun _ _ _ _ _ => ei_v 1) (by decide))) (ai_cons (ei_v 3) (ai_nil)))))))) ref_gen
theorem has__law_draw {P : Program} {w : World} {K : Frg} {mg : Str → Option Value} {base : Heap} (T : Top K mg) : Has P w K mg base 1 "_law_draw" (topS 9) ["heap", "many"] M__law_draw :=
  has_of (N := N__law_draw) (m := m__law_draw) T.d__law_draw sc__law_draw (fun _ _ _ _ _ _ us hl => match us, hl with | [_, _], _ => rfl) (fun f cdv A outer s H E hr hgd =>
  bi_cons (si_while PassesOwn.never (ti_w (wi_and (ti_cmp (op2_ne hr.units) (ei_ix (ei_v 0) (ei_int)) (ei_fro (ai_nil)) (nomark _)) (wi_and1 (ti_cmp (op2_eq hr.units) (ei_ix (ei_ix (ei_v 0) (ei_int)) (ei_un op1_neg (ei_int))) (ei_int) (nomark _)))))
 (bi_one (si_expr (ei_bm0 PySem.F.plainAttrs_list PySem.F.slot_list_pop PySem.F.type_list_pop opm_pop (ei_ix (ei_v 0) (ei_int))))))
 (bi_cons (si_if (ti_cmp (op2_ne hr.units) (ei_ix (ei_v 0) (ei_int)) (ei_fro (ai_nil)) (nomark _))
 (bi_cons (si_set (i := 2) sc__law_draw.nd rfl (.inl rfl) (ei_bm0 PySem.F.plainAttrs_list PySem.F.slot_list_pop PySem.F.type_list_pop opm_pop (ei_ix (ei_v 0) (ei_int))))
 (bi_cons (si_expr (ei_bm PySem.F.plainAttrs_list PySem.F.slot_list_append PySem.F.type_list_append opm_append (ei_ix (ei_v 0) (ei_int)) (ai_cons (ei_op op2_div (ei_v 2) (ei_v 1)) (ai_nil))))
 (bi_one (si_ret (ei_op op2_mod (ei_callT opc_int (by rfl) T.z_int (by decide +kernel) (ai_cons (ei_v 2) (ai_nil))) (ei_v 1))))))
 (bi_nil))
 (bi_cons (si_asg (ei_op op2_mod (ei_callT opc_int (by rfl) T.z_int (by decide +kernel) (ai_cons (ei_op op2_add (ei_op op2_mul (ei_ix (ei_v 0) (ei_int)) (ei_int)) (ei_int)) (ai_nil))) (ei_int)) (gi_ix (ei_v 0) (ei_int)))
 (bi_one (si_ret (ei_op op2_mod (ei_callT opc_int (by rfl) T.z_int (by decide +kernel) (ai_cons (ei_op op2_div (ei_ix (ei_v 0) (ei_int)) (ei_int)) (ai_nil))) (ei_v 1))))))) ref_gen
theorem has__law_pick {P : Program} {w : World} {K : Frg} {mg : Str → Option Value} {base : Heap} (T : Top K mg) (h__law_draw : Has P w K mg base 1 "_law_draw" (topS 9) ["heap", "many"] M__law_draw) : Has P w K mg base 2 "_law_pick" (topS 10) ["heap", "some"] M__law_pick :=
  has_of (N := N__law_pick) (m := m__law_pick) T.d__law_pick sc__law_pick (fun _ _ _ _ _ _ us hl => match us, hl with | [_, _], _ => rfl) (fun f cdv A outer s H E hr hgd =>
  bi_one (si_ret (ei_ix (ei_v 1) (ei_has h__law_draw hr (by decide) hgd (by rfl) (ai_cons (ei_v 0) (ai_cons (ei_callB opc_len (by rfl) T.z_len (by decide +kernel) (ai_cons (ei_v 1) (ai_nil))) (ai_nil))) (len_cons (len_cons len_nil)))))) ref_gen
theorem has__law_marks {P : Program} {w : World} {K : Frg} {mg : Str → Option Value} {base : Heap} (T : Top K mg) : Has P w K mg base 1 "_law_marks" (topS 11) ["text"] M__law_marks :=
  has_of (N := N__law_marks) (m := m__law_marks) T.d__law_marks sc__law_marks (fun _ _ _ _ _ _ us hl => match us, hl with | [_], _ => rfl) (fun f cdv A outer s H E hr hgd =>
  bi_cons (si_asg (ei_tup (ai_cons (ei_lst (ai_nil)) (ai_cons (ei_int) (ai_cons (ei_int) (ai_cons (ei_int) (ai_nil)))))) (gi_t rfl (gsi_cons (gi_n sc__law_marks.nd rfl (by first | exact Or.inl rfl | exact Or.inr rfl)) (gsi_cons (gi_n sc__law_marks.nd rfl (by first | exact Or.inl rfl | exact Or.inr rfl)) (gsi_cons (gi_n sc__law_marks.nd rfl (by first | exact Or.inl rfl | exact Or.inr rfl)) (gsi_cons (gi_n sc__law_marks.nd rfl (by first | exact Or.inl rfl | exact Or.inr rfl)) (gsi_nil)))))))
 (bi_cons (si_while PassesOwn.never (ti_cmp op2_lt (ei_v 4) (ei_callB opc_len (by rfl) T.z_len (by decide +kernel) (ai_cons (ei_v 0) (ai_nil))) (nomark _))
 (bi_cons (si_set (i := 5) sc__law_marks.nd rfl (.inl rfl) (ei_op op2_add (ei_v 4) (ei_int)))
 (bi_cons (si_if (ti_chain op2_le op2_le (ei_str) (ei_ix (ei_v 0) (ei_v 4)) (ei_str))
 (bi_one (si_while PassesOwn.never (ti_w (wi_and (ti_cmp op2_lt (ei_v 5) (ei_callB opc_len (by rfl) T.z_len (by decide +kernel) (ai_cons (ei_v 0) (ai_nil))) (nomark _)) (wi_and1 (ti_chain op2_le op2_le (ei_str) (ei_ix (ei_v 0) (ei_v 5)) (ei_str)))))
 (bi_one (si_set (i := 5) sc__law_marks.nd rfl (.inl rfl) (ei_op op2_add (ei_v 5) (ei_int))))))
 (bi_one (si_if (ti_chain op2_le op2_le (ei_str) (ei_ix (ei_v 0) (ei_v 4)) (ei_str))
 (bi_one (si_while PassesOwn.never (ti_w (wi_and (ti_cmp op2_lt (ei_v 5) (ei_callB opc_len (by rfl) T.z_len (by decide +kernel) (ai_cons (ei_v 0) (ai_nil))) (nomark _)) (wi_and1 (ti_chain op2_le op2_le (ei_str) (ei_ix (ei_v 0) (ei_v 5)) (ei_str)))))
 (bi_one (si_set (i := 5) sc__law_marks.nd rfl (.inl rfl) (ei_op op2_add (ei_v 5) (ei_int))))))
 (bi_one (si_if (ti_w (wi_and (ti_cmp op2_in (ei_ix (ei_v 0) (ei_v 4)) (ei_str) (by rfl)) (wi_and1 (ti_cmp (op2_eq hr.units) (ei_sl false (ei_v 0) (oi_some (ei_v 5)) (oi_some (ei_op op2_add (ei_v 5) (ei_int)))) (ei_str) (nomark _)))))
 (bi_one (si_set (i := 5) sc__law_marks.nd rfl (.inl rfl) (ei_op op2_add (ei_v 5) (ei_int))))
 (bi_nil))))))
 (bi_cons (si_if (ti_cmp (op2_ne hr.units) (ei_ix (ei_v 0) (ei_v 4)) (ei_str) (nomark _))
 (bi_one (si_expr (ei_bm PySem.F.plainAttrs_list PySem.F.slot_list_append PySem.F.type_list_append opm_append (ei_v 1) (ai_cons (ei_tup (ai_cons (ei_v 2) (ai_cons (ei_op op2_sub (ei_v 4) (ei_v 3)) (ai_cons (ei_sl false (ei_v 0) (oi_some (ei_v 4)) (oi_some (ei_v 5))) (ai_nil))))) (ai_nil)))))
 (bi_nil))
 (bi_cons (si_if (ti_cmp (op2_eq hr.units) (ei_ix (ei_v 0) (ei_v 4)) (ei_str) (nomark _))
 (bi_one (si_par (i := 2) (j := 3) rfl sc__law_marks.nd rfl rfl (by decide) rfl rfl (ai_cons (ei_op op2_add (ei_v 2) (ei_int)) (ai_cons (ei_v 5) (ai_nil))) (by rfl)))
 (bi_nil))
 (bi_one (si_set (i := 4) sc__law_marks.nd rfl (.inl rfl) (ei_v 5))))))))
 (bi_one (si_ret (ei_callT opc_tuple (by rfl) T.z_tuple (by decide +kernel) (ai_cons (ei_v 1) (ai_nil))))))) ref_gen
theorem has__law_string {P : Program} {w : World} {K : Frg} {mg : Str → Option Value} {base : Heap} (T : Top K mg) (h__law_draw : Has P w K mg base 1 "_law_draw" (topS 9) ["heap", "many"] M__law_draw) (h__law_pick : Has P w K mg base 2 "_law_pick" (topS 10) ["heap", "some"] M__law_pick) : Has P w K mg base 3 "_law_string" (topS 12) ["heap", "many"] M__law_string :=
  has_of (N := N__law_string) (m := m__law_string) T.d__law_string sc__law_string (fun _ _ _ _ _ _ us hl => match us, hl with | [_, _], _ => rfl) (fun f cdv A outer s H E hr hgd =>
  bi_cons (si_asg (ei_tup (ai_cons (ei_str) (ai_cons (ei_str) (ai_nil)))) (gi_t rfl (gsi_cons (gi_n sc__law_string.nd rfl (by first | exact Or.inl rfl | exact Or.inr rfl)) (gsi_cons (gi_n sc__law_string.nd rfl (by first | exact Or.inl rfl | exact Or.inr rfl)) (gsi_nil)))))
 (bi_cons (si_for PassesOwn.never rfl (ii_rng1 (by rfl) T.z_range (ai_cons (ei_v 1) (ai_nil))) (gi_n sc__law_string.nd rfl (by first | exact Or.inl rfl | exact Or.inr rfl))
 (bi_cons (si_set (i := 5) sc__law_string.nd rfl (.inl rfl) (ei_has h__law_draw hr (by decide) hgd (by rfl) (ai_cons (ei_v 0) (ai_cons (ei_int) (ai_nil))) (len_cons (len_cons len_nil))))
 (bi_one (si_if (ti_cmp op2_lt (ei_v 5) (ei_int) (nomark _))
 (bi_one (si_set (i := 3) sc__law_string.nd rfl (.inl rfl) (ei_op op2_add (ei_v 3) (ei_has h__law_pick hr (by decide) hgd (by rfl) (ai_cons (ei_v 0) (ai_cons (ei_v 2) (ai_nil))) (len_cons (len_cons len_nil))))))
 (bi_one (si_if (ti_cmp op2_lt (ei_v 5) (ei_int) (nomark _))
 (bi_one (si_set (i := 3) sc__law_string.nd rfl (.inl rfl) (ei_op op2_add (ei_v 3) (ei_has h__law_pick hr (by decide) hgd (by rfl) (ai_cons (ei_v 0) (ai_cons (ei_fro (ai_cons (ei_str) (ai_cons (ei_str) (ai_cons (ei_str) (ai_cons (ei_str) (ai_cons (ei_str) (ai_cons (ei_str) (ai_cons (ei_str) (ai_cons (ei_str) (ai_cons (ei_str) (ai_cons (ei_str) (ai_cons (ei_str) (ai_cons (ei_str) (ai_cons (ei_str) (ai_cons (ei_str) (ai_cons (ei_str) (ai_nil))))))))))))))))) (ai_nil))) (len_cons (len_cons len_nil))))))
 (bi_one (si_set (i := 3) sc__law_string.nd rfl (.inl rfl) (ei_op op2_add (ei_v 3) (ei_has h__law_pick hr (by decide) hgd (by rfl) (ai_cons (ei_v 0) (ai_cons (ei_fro (ai_cons (ei_str) (ai_cons (ei_str) (ai_cons (ei_str) (ai_cons (ei_str) (ai_cons (ei_str) (ai_cons (ei_str) (ai_cons (ei_str) (ai_cons (ei_str) (ai_cons (ei_str) (ai_cons (ei_str) (ai_nil)))))))))))) (ai_nil))) (len_cons (len_cons len_nil))))))))))))
 (bi_one (si_ret (ei_v 3))))) ref_gen
theorem has_law {P : Program} {w : World} {K : Frg} {mg : Str → Option Value} {base : Heap} (T : Top K mg) (h__law_heap : Has P w K mg base 1 "_law_heap" (topS 8) ["script"] M__law_heap) (h__law_pick : Has P w K mg base 2 "_law_pick" (topS 10) ["heap", "some"] M__law_pick) (h__law_string : Has P w K mg base 3 "_law_string" (topS 12) ["heap", "many"] M__law_string) (h__law_marks : Has P w K mg base 1 "_law_marks" (topS 11) ["text"] M__law_marks) (h_marks_in : Has P w K mg base 3 "marks_in" (topS 6) ["text"] M_marks_in) : Has P w K mg base 4 "law" (topS 13) ["script"] M_law :=
  has_of (N := N_law) (m := m_law) T.d_law sc_law (fun _ _ _ _ _ _ us hl => match us, hl with | [_], _ => rfl) (fun f cdv A outer s H E hr hgd =>
  bi_cons (si_set (i := 1) sc_law.nd rfl (.inl rfl) (ei_has h__law_heap hr (by decide) hgd (by rfl) (ai_cons (ei_v 0) (ai_nil)) (len_cons len_nil)))
 (bi_cons (si_for PassesOwn.never rfl (ii_rng1 (by rfl) T.z_range (ai_cons (ei_op op2_add (ei_int) (ei_callT opc_int (by rfl) T.z_int (by decide +kernel) (ai_cons (ei_cmp op2_gt (ei_callB opc_len (by rfl) T.z_len (by decide +kernel) (ai_cons (ei_v 0) (ai_nil))) (ei_int) (nomark _)) (ai_nil)))) (ai_nil))) (gi_n sc_law.nd rfl (by first | exact Or.inl rfl | exact Or.inr rfl))
 (bi_cons (si_set (i := 3) sc_law.nd rfl (.inl rfl) (ei_has h__law_string hr (by decide) hgd (by rfl) (ai_cons (ei_v 1) (ai_cons (ei_has h__law_pick hr (by decide) hgd (by rfl) (ai_cons (ei_v 1) (ai_cons (ei_fro (ai_cons (ei_int) (ai_cons (ei_int) (ai_cons (ei_int) (ai_cons (ei_int) (ai_cons (ei_int) (ai_cons (ei_int) (ai_nil)))))))) (ai_nil))) (len_cons (len_cons len_nil))) (ai_nil))) (len_cons (len_cons len_nil))))
 (bi_cons (si_set (i := 4) sc_law.nd rfl (.inl rfl) (ei_has h__law_marks hr (by decide) hgd (by rfl) (ai_cons (ei_v 3) (ai_nil)) (len_cons len_nil)))
 (bi_cons (si_if (ti_w (wi_or (ti_cmp (op2_ne hr.units) (ei_callB (opc_repr hgd hr.units) (by rfl) T.z_repr (by decide +kernel) (ai_cons (ei_has h_marks_in hr (by decide) hgd (by rfl) (ai_cons (ei_v 3) (ai_nil)) (len_cons len_nil)) (ai_nil))) (ei_callB (opc_repr hgd hr.units) (by rfl) T.z_repr (by decide +kernel) (ai_cons (ei_v 4) (ai_nil))) (nomark _)) (wi_or1 (ti_cmp (op2_ne hr.units) (ei_callB (opc_repr hgd hr.units) (by rfl) T.z_repr (by decide +kernel) (ai_cons (ei_hasK0 (ks := ["text"]) (ix := [0]) h_marks_in hr (by decide) hgd (by rfl) (ki_cons (ei_v 3) (ki_nil)) (fun _ _ _ _ _ _ us ws h1 h2 => match us, ws, h1, h2 with | [], [_], _, _ => rfl) (len_cons len_nil) (fun l h => match l, h with | [_], _ => rfl)) (ai_nil))) (ei_callB (opc_repr hgd hr.units) (by rfl) T.z_repr (by decide +kernel) (ai_cons (ei_v 4) (ai_nil))) (nomark _)))))
 (bi_one (si_ret (ei_bl)))
 (bi_nil))
 (bi_one (si_if (ti_joinNe (ei_lc false (own := [("mark", 6)]) rfl sc_law.nd (ii_v (ei_v 4)) (blkOk_by (own := [("mark", 6)]) (N := N_law) (sc := defScope (topS 13)) (by decide +kernel)) (fun _ _ _ _ _ => gi_n sc_law.nd rfl (by first | exact Or.inl rfl | exact Or.inr rfl)) (fun _ _ _ _ _ => tsi_nil) (fun _ _ _ _ _ => ei_ix (ei_v 6) (ei_int)) (by decide)) (ei_v 3) (by decide +kernel) hr.units)
 (bi_one (si_ret (ei_bl)))
 (bi_nil)))))))
 (bi_cons (si_set (i := 5) sc_law.nd rfl (.inl rfl) (ei_op op2_add (ei_op op2_add (ei_op op2_add (ei_op op2_add (ei_op op2_mul (ei_str) (ei_int)) (ei_op op2_mul (ei_str) (ei_int))) (ei_op op2_mul (ei_str) (ei_int))) (ei_op op2_mul (ei_str) (ei_int))) (ei_str)))
 (bi_cons (si_if (ti_w (wi_or (ti_cmp (op2_ne hr.units) (ei_ix (ei_has h_marks_in hr (by decide) hgd (by rfl) (ai_cons (ei_v 5) (ai_nil)) (len_cons len_nil)) (ei_un op1_neg (ei_int))) (ei_tup (ai_cons (ei_int) (ai_cons (ei_int) (ai_cons (ei_str) (ai_nil))))) (nomark _)) (wi_or1 (ti_cmp (op2_ne hr.units) (ei_sl false (ei_has h_marks_in hr (by decide) hgd (by rfl) (ai_cons (ei_v 5) (ai_nil)) (len_cons len_nil)) (oi_none) (oi_some (ei_int))) (ei_tup (ai_cons (ei_tup (ai_cons (ei_int) (ai_cons (ei_int) (ai_cons (ei_op op2_mul (ei_str) (ei_int)) (ai_nil))))) (ai_cons (ei_tup (ai_cons (ei_int) (ai_cons (ei_int) (ai_cons (ei_op op2_mul (ei_str) (ei_int)) (ai_nil))))) (ai_nil)))) (nomark _)))))
 (bi_one (si_ret (ei_bl)))
 (bi_nil))
 (bi_one (si_ret (ei_and (ei_cmp (op2_eq hr.units) (ei_has h_marks_in hr (by decide) hgd (by rfl) (ai_cons (ei_str) (ai_nil)) (len_cons len_nil)) (ei_tup (ai_nil)) (nomark _)) (ei_one (ei_cmp (op2_eq hr.units) (ei_has h_marks_in hr (by decide) hgd (by rfl) (ai_cons (ei_str) (ai_nil)) (len_cons len_nil)) (ei_tup (ai_cons (ei_tup (ai_cons (ei_int) (ai_cons (ei_int) (ai_cons (ei_str) (ai_nil))))) (ai_cons (ei_tup (ai_cons (ei_int) (ai_cons (ei_int) (ai_cons (ei_str) (ai_nil))))) (ai_cons (ei_tup (ai_cons (ei_int) (ai_cons (ei_int) (ai_cons (ei_str) (ai_nil))))) (ai_cons (ei_tup (ai_cons (ei_int) (ai_cons (ei_int) (ai_cons (ei_str) (ai_nil))))) (ai_cons (ei_tup (ai_cons (ei_int) (ai_cons (ei_int) (ai_cons (ei_str) (ai_nil))))) (ai_cons (ei_tup (ai_cons (ei_int) (ai_cons (ei_int) (ai_cons (ei_str) (ai_nil))))) (ai_nil)))))))) (nomark _)))))))))) ref_gen
end T5
namespace T5
open PySem PySem.Spec PyProof.Rows L2 Fx
theorem top_mk {K : Frg} {h : Heap} {mg : Str → Option Value} (X : K.In h) (G : h.Ns mainGlobals mg)
    {t7 : Tok}
    {p8 : Addr} {dd8 : Option Addr} {sl8 : Array (Option Value)} {its8 : Array Value} {n8 : Nat}
    {t9 : Tok}
    {f10 : Addr} {od10 an10 : Option Addr} {sl10 : Array (Option Value)} {oc10 kV10 dc10 pm10 cd10 ct10 : Value}
    {f11 : Addr} {od11 an11 : Option Addr} {sl11 : Array (Option Value)} {oc11 kV11 dc11 pm11 cd11 ct11 : Value}
    {f12 : Addr} {od12 an12 : Option Addr} {sl12 : Array (Option Value)} {oc12 kV12 dc12 pm12 cd12 ct12 : Value}
    {f13 : Addr} {od13 an13 : Option Addr} {sl13 : Array (Option Value)} {oc13 kV13 dc13 pm13 cd13 ct13 : Value}
    {f14 : Addr} {od14 an14 : Option Addr} {sl14 : Array (Option Value)} {oc14 kV14 dc14 pm14 cd14 ct14 : Value}
    {f15 : Addr} {od15 an15 : Option Addr} {sl15 : Array (Option Value)} {oc15 kV15 dc15 pm15 cd15 ct15 : Value}
    {f16 : Addr} {od16 an16 : Option Addr} {sl16 : Array (Option Value)} {oc16 kV16 dc16 pm16 cd16 ct16 : Value}
    {f17 : Addr} {od17 an17 : Option Addr} {sl17 : Array (Option Value)} {oc17 kV17 dc17 pm17 cd17 ct17 : Value}
    {f18 : Addr} {od18 an18 : Option Addr} {sl18 : Array (Option Value)} {oc18 kV18 dc18 pm18 cd18 ct18 : Value}
    (a1 : PySem.W.nsIn K mainGlobals "abs" = some none)
    (a2 : PySem.W.nsIn K mainGlobals "int" = some none)
    (a3 : PySem.W.nsIn K mainGlobals "len" = some none)
    (a4 : PySem.W.nsIn K mainGlobals "range" = some none)
    (a5 : PySem.W.nsIn K mainGlobals "repr" = some none)
    (a6 : PySem.W.nsIn K mainGlobals "tuple" = some none)
    (a7 : PySem.W.nsIn K mainGlobals "DIGITS" = some (some (.str (Str.ofString "0123456789") t7)))
    (a8 : PySem.W.nsIn K mainGlobals "DOUBLE" = some (some (.ref p8))) (l8 : K.lookup p8 = some ⟨.type "tuple", dd8, .seq its8 n8, sl8⟩) (w8 : its8.size ≤ sizeLine ∧ mapO wOf its8.toList = some [.str (Str.ofString ">="), .str (Str.ofString "<=")])
    (a9 : PySem.W.nsIn K mainGlobals "LETTERS" = some (some (.str (Str.ofString "abcdefghijklmnopqrstuvwxyz") t9)))
    (a10 : PySem.W.nsIn K mainGlobals "run_end" = some (some (.ref f10))) (l10 : K.lookup f10 = some ⟨oc10, od10, .func (PySem.W.fnOf "run_end" "run_end" (defArgs (topS 4)) (defBody (topS 4)) (defScope (topS 4)) .none kV10 dc10 pm10 an10 cd10 ct10), sl10⟩) (c10 : PySem.W.codeIn K cd10 "run_end" = true) (k10 : PySem.W.keepIn K (.ref f10) = true)
    (a11 : PySem.W.nsIn K mainGlobals "mark_at" = some (some (.ref f11))) (l11 : K.lookup f11 = some ⟨oc11, od11, .func (PySem.W.fnOf "mark_at" "mark_at" (defArgs (topS 5)) (defBody (topS 5)) (defScope (topS 5)) .none kV11 dc11 pm11 an11 cd11 ct11), sl11⟩) (c11 : PySem.W.codeIn K cd11 "mark_at" = true) (k11 : PySem.W.keepIn K (.ref f11) = true)
    (a12 : PySem.W.nsIn K mainGlobals "marks_in" = some (some (.ref f12))) (l12 : K.lookup f12 = some ⟨oc12, od12, .func (PySem.W.fnOf "marks_in" "marks_in" (defArgs (topS 6)) (defBody (topS 6)) (defScope (topS 6)) .none kV12 dc12 pm12 an12 cd12 ct12), sl12⟩) (c12 : PySem.W.codeIn K cd12 "marks_in" = true) (k12 : PySem.W.keepIn K (.ref f12) = true)
    (a13 : PySem.W.nsIn K mainGlobals "_law_heap" = some (some (.ref f13))) (l13 : K.lookup f13 = some ⟨oc13, od13, .func (PySem.W.fnOf "_law_heap" "_law_heap" (defArgs (topS 8)) (defBody (topS 8)) (defScope (topS 8)) .none kV13 dc13 pm13 an13 cd13 ct13), sl13⟩) (c13 : PySem.W.codeIn K cd13 "_law_heap" = true) (k13 : PySem.W.keepIn K (.ref f13) = true)
    (a14 : PySem.W.nsIn K mainGlobals "_law_draw" = some (some (.ref f14))) (l14 : K.lookup f14 = some ⟨oc14, od14, .func (PySem.W.fnOf "_law_draw" "_law_draw" (defArgs (topS 9)) (defBody (topS 9)) (defScope (topS 9)) .none kV14 dc14 pm14 an14 cd14 ct14), sl14⟩) (c14 : PySem.W.codeIn K cd14 "_law_draw" = true) (k14 : PySem.W.keepIn K (.ref f14) = true)
    (a15 : PySem.W.nsIn K mainGlobals "_law_pick" = some (some (.ref f15))) (l15 : K.lookup f15 = some ⟨oc15, od15, .func (PySem.W.fnOf "_law_pick" "_law_pick" (defArgs (topS 10)) (defBody (topS 10)) (defScope (topS 10)) .none kV15 dc15 pm15 an15 cd15 ct15), sl15⟩) (c15 : PySem.W.codeIn K cd15 "_law_pick" = true) (k15 : PySem.W.keepIn K (.ref f15) = true)
    (a16 : PySem.W.nsIn K mainGlobals "_law_marks" = some (some (.ref f16))) (l16 : K.lookup f16 = some ⟨oc16, od16, .func (PySem.W.fnOf "_law_marks" "_law_marks" (defArgs (topS 11)) (defBody (topS 11)) (defScope (topS 11)) .none kV16 dc16 pm16 an16 cd16 ct16), sl16⟩) (c16 : PySem.W.codeIn K cd16 "_law_marks" = true) (k16 : PySem.W.keepIn K (.ref f16) = true)
    (a17 : PySem.W.nsIn K mainGlobals "_law_string" = some (some (.ref f17))) (l17 : K.lookup f17 = some ⟨oc17, od17, .func (PySem.W.fnOf "_law_string" "_law_string" (defArgs (topS 12)) (defBody (topS 12)) (defScope (topS 12)) .none kV17 dc17 pm17 an17 cd17 ct17), sl17⟩) (c17 : PySem.W.codeIn K cd17 "_law_string" = true) (k17 : PySem.W.keepIn K (.ref f17) = true)
    (a18 : PySem.W.nsIn K mainGlobals "law" = some (some (.ref f18))) (l18 : K.lookup f18 = some ⟨oc18, od18, .func (PySem.W.fnOf "law" "law" (defArgs (topS 13)) (defBody (topS 13)) (defScope (topS 13)) .none kV18 dc18 pm18 an18 cd18 ct18), sl18⟩) (c18 : PySem.W.codeIn K cd18 "law" = true) (k18 : PySem.W.keepIn K (.ref f18) = true)
    : Top K mg where
  z_abs := PySem.W.mg_none_of X G a1
  z_int := PySem.W.mg_none_of X G a2
  z_len := PySem.W.mg_none_of X G a3
  z_range := PySem.W.mg_none_of X G a4
  z_repr := PySem.W.mg_none_of X G a5
  z_tuple := PySem.W.mg_none_of X G a6
  c_DIGITS := .str (PySem.W.mg_of X G a7)
  c_DOUBLE := .tup (PySem.W.mg_of X G a8) l8 rfl rfl w8.1 w8.2
  c_LETTERS := .str (PySem.W.mg_of X G a9)
  d_run_end := ⟨_, _, fun_mk (st := topS 4) l10 c10 k10, PySem.W.mg_of X G a10⟩
  d_mark_at := ⟨_, _, fun_mk (st := topS 5) l11 c11 k11, PySem.W.mg_of X G a11⟩
  d_marks_in := ⟨_, _, fun_mk (st := topS 6) l12 c12 k12, PySem.W.mg_of X G a12⟩
  d__law_heap := ⟨_, _, fun_mk (st := topS 8) l13 c13 k13, PySem.W.mg_of X G a13⟩
  d__law_draw := ⟨_, _, fun_mk (st := topS 9) l14 c14 k14, PySem.W.mg_of X G a14⟩
  d__law_pick := ⟨_, _, fun_mk (st := topS 10) l15 c15 k15, PySem.W.mg_of X G a15⟩
  d__law_marks := ⟨_, _, fun_mk (st := topS 11) l16 c16 k16, PySem.W.mg_of X G a16⟩
  d__law_string := ⟨_, _, fun_mk (st := topS 12) l17 c17 k17, PySem.W.mg_of X G a17⟩
  d_law := ⟨_, _, fun_mk (st := topS 13) l18 c18 k18, PySem.W.mg_of X G a18⟩
theorem fun_same {K : Frg} {x q : Str} {st : Stmt} {f : Addr} {fd fd2 : FuncData} (a : Fun K x q st f fd) (b : Fun K x q st f fd2) : fd = fd2 := by
  obtain ⟨_, _, _, _, _, _, _, _, _, _, l1, _⟩ := a.ex
  obtain ⟨_, _, _, _, _, _, _, _, _, _, l2, _⟩ := b.ex
  rw [l1] at l2
  cases l2
  rfl
theorem all_mk {P : Program} {w : World} {K : Frg} {mg : Str → Option Value} {fa : Addr} (hfa : mg "law" = some (.ref fa)) (T : Top K mg) :
    ∃ fd : FuncData, (∀ (s : Shared) (v : Value), BindsTo s fd ⟨[v], []⟩ [("script", v)]) ∧ ∀ base : Heap, FnG P w K mg base 4 fa fd ["script"] (spM K 1 M_law) := by
  obtain ⟨f, fd, Fu, g⟩ := T.d_law
  have e := hfa.symm.trans g
  cases e
  refine ⟨fd, fun s v => ?_, fun base => ?_⟩
  · obtain ⟨oc, od, kV, doc, pm, an, cdv, ct, osl, rfl, lk, hcd⟩ := Fu.ex
    exact .of_eq rfl
  have h_run_end := has_run_end (P := P) (w := w) (base := base) T
  have h_mark_at := has_mark_at (P := P) (w := w) (base := base) T h_run_end
  have h_marks_in := has_marks_in (P := P) (w := w) (base := base) T h_mark_at
  have h__law_heap := has__law_heap (P := P) (w := w) (base := base) T
  have h__law_draw := has__law_draw (P := P) (w := w) (base := base) T
  have h__law_pick := has__law_pick (P := P) (w := w) (base := base) T h__law_draw
  have h__law_marks := has__law_marks (P := P) (w := w) (base := base) T
  have h__law_string := has__law_string (P := P) (w := w) (base := base) T h__law_draw h__law_pick
  have h_law := has_law (P := P) (w := w) (base := base) T h__law_heap h__law_pick h__law_string h__law_marks h_marks_in
  obtain ⟨f2, fd2, Fu2, g2, _, R⟩ := h_law
  have e := g.symm.trans g2
  cases e
  cases fun_same Fu Fu2
  exact R
theorem all_top {l : PySem.W.OpenLaw} {w : World} {K : Frg} {h : Heap} {mg : Str → Option Value} {fa : Addr} (X : K.In h) (G : h.Ns mainGlobals mg) (hfa : mg "law" = some (.ref fa))
    {t7 : Tok}
    {p8 : Addr} {dd8 : Option Addr} {sl8 : Array (Option Value)} {its8 : Array Value} {n8 : Nat}
    {t9 : Tok}
    {f10 : Addr} {od10 an10 : Option Addr} {sl10 : Array (Option Value)} {oc10 kV10 dc10 pm10 cd10 ct10 : Value}
    {f11 : Addr} {od11 an11 : Option Addr} {sl11 : Array (Option Value)} {oc11 kV11 dc11 pm11 cd11 ct11 : Value}
    {f12 : Addr} {od12 an12 : Option Addr} {sl12 : Array (Option Value)} {oc12 kV12 dc12 pm12 cd12 ct12 : Value}
    {f13 : Addr} {od13 an13 : Option Addr} {sl13 : Array (Option Value)} {oc13 kV13 dc13 pm13 cd13 ct13 : Value}
    {f14 : Addr} {od14 an14 : Option Addr} {sl14 : Array (Option Value)} {oc14 kV14 dc14 pm14 cd14 ct14 : Value}
    {f15 : Addr} {od15 an15 : Option Addr} {sl15 : Array (Option Value)} {oc15 kV15 dc15 pm15 cd15 ct15 : Value}
    {f16 : Addr} {od16 an16 : Option Addr} {sl16 : Array (Option Value)} {oc16 kV16 dc16 pm16 cd16 ct16 : Value}
    {f17 : Addr} {od17 an17 : Option Addr} {sl17 : Array (Option Value)} {oc17 kV17 dc17 pm17 cd17 ct17 : Value}
    {f18 : Addr} {od18 an18 : Option Addr} {sl18 : Array (Option Value)} {oc18 kV18 dc18 pm18 cd18 ct18 : Value}
    (a1 : PySem.W.nsIn K mainGlobals "abs" = some none)
    (a2 : PySem.W.nsIn K mainGlobals "int" = some none)
    (a3 : PySem.W.nsIn K mainGlobals "len" = some none)
    (a4 : PySem.W.nsIn K mainGlobals "range" = some none)
    (a5 : PySem.W.nsIn K mainGlobals "repr" = some none)
    (a6 : PySem.W.nsIn K mainGlobals "tuple" = some none)
    (a7 : PySem.W.nsIn K mainGlobals "DIGITS" = some (some (.str (Str.ofString "0123456789") t7)))
    (a8 : PySem.W.nsIn K mainGlobals "DOUBLE" = some (some (.ref p8))) (l8 : K.lookup p8 = some ⟨.type "tuple", dd8, .seq its8 n8, sl8⟩) (w8 : its8.size ≤ sizeLine ∧ mapO wOf its8.toList = some [.str (Str.ofString ">="), .str (Str.ofString "<=")])
    (a9 : PySem.W.nsIn K mainGlobals "LETTERS" = some (some (.str (Str.ofString "abcdefghijklmnopqrstuvwxyz") t9)))
    (a10 : PySem.W.nsIn K mainGlobals "run_end" = some (some (.ref f10))) (l10 : K.lookup f10 = some ⟨oc10, od10, .func (PySem.W.fnOf "run_end" "run_end" (defArgs (topS 4)) (defBody (topS 4)) (defScope (topS 4)) .none kV10 dc10 pm10 an10 cd10 ct10), sl10⟩) (c10 : PySem.W.codeIn K cd10 "run_end" = true) (k10 : PySem.W.keepIn K (.ref f10) = true)
    (a11 : PySem.W.nsIn K mainGlobals "mark_at" = some (some (.ref f11))) (l11 : K.lookup f11 = some ⟨oc11, od11, .func (PySem.W.fnOf "mark_at" "mark_at" (defArgs (topS 5)) (defBody (topS 5)) (defScope (topS 5)) .none kV11 dc11 pm11 an11 cd11 ct11), sl11⟩) (c11 : PySem.W.codeIn K cd11 "mark_at" = true) (k11 : PySem.W.keepIn K (.ref f11) = true)
    (a12 : PySem.W.nsIn K mainGlobals "marks_in" = some (some (.ref f12))) (l12 : K.lookup f12 = some ⟨oc12, od12, .func (PySem.W.fnOf "marks_in" "marks_in" (defArgs (topS 6)) (defBody (topS 6)) (defScope (topS 6)) .none kV12 dc12 pm12 an12 cd12 ct12), sl12⟩) (c12 : PySem.W.codeIn K cd12 "marks_in" = true) (k12 : PySem.W.keepIn K (.ref f12) = true)
    (a13 : PySem.W.nsIn K mainGlobals "_law_heap" = some (some (.ref f13))) (l13 : K.lookup f13 = some ⟨oc13, od13, .func (PySem.W.fnOf "_law_heap" "_law_heap" (defArgs (topS 8)) (defBody (topS 8)) (defScope (topS 8)) .none kV13 dc13 pm13 an13 cd13 ct13), sl13⟩) (c13 : PySem.W.codeIn K cd13 "_law_heap" = true) (k13 : PySem.W.keepIn K (.ref f13) = true)
    (a14 : PySem.W.nsIn K mainGlobals "_law_draw" = some (some (.ref f14))) (l14 : K.lookup f14 = some ⟨oc14, od14, .func (PySem.W.fnOf "_law_draw" "_law_draw" (defArgs (topS 9)) (defBody (topS 9)) (defScope (topS 9)) .none kV14 dc14 pm14 an14 cd14 ct14), sl14⟩) (c14 : PySem.W.codeIn K cd14 "_law_draw" = true) (k14 : PySem.W.keepIn K (.ref f14) = true)
    (a15 : PySem.W.nsIn K mainGlobals "_law_pick" = some (some (.ref f15))) (l15 : K.lookup f15 = some ⟨oc15, od15, .func (PySem.W.fnOf "_law_pick" "_law_pick" (defArgs (topS 10)) (defBody (topS 10)) (defScope (topS 10)) .none kV15 dc15 pm15 an15 cd15 ct15), sl15⟩) (c15 : PySem.W.codeIn K cd15 "_law_pick" = true) (k15 : PySem.W.keepIn K (.ref f15) = true)
    (a16 : PySem.W.nsIn K mainGlobals "_law_marks" = some (some (.ref f16))) (l16 : K.lookup f16 = some ⟨oc16, od16, .func (PySem.W.fnOf "_law_marks" "_law_marks" (defArgs (topS 11)) (defBody (topS 11)) (defScope (topS 11)) .none kV16 dc16 pm16 an16 cd16 ct16), sl16⟩) (c16 : PySem.W.codeIn K cd16 "_law_marks" = true) (k16 : PySem.W.keepIn K (.ref f16) = true)
    (a17 : PySem.W.nsIn K mainGlobals "_law_string" = some (some (.ref f17))) (l17 : K.lookup f17 = some ⟨oc17, od17, .func (PySem.W.fnOf "_law_string" "_law_string" (defArgs (topS 12)) (defBody (topS 12)) (defScope (topS 12)) .none kV17 dc17 pm17 an17 cd17 ct17), sl17⟩) (c17 : PySem.W.codeIn K cd17 "_law_string" = true) (k17 : PySem.W.keepIn K (.ref f17) = true)
    (a18 : PySem.W.nsIn K mainGlobals "law" = some (some (.ref f18))) (l18 : K.lookup f18 = some ⟨oc18, od18, .func (PySem.W.fnOf "law" "law" (defArgs (topS 13)) (defBody (topS 13)) (defScope (topS 13)) .none kV18 dc18 pm18 an18 cd18 ct18), sl18⟩) (c18 : PySem.W.codeIn K cd18 "law" = true) (k18 : PySem.W.keepIn K (.ref f18) = true)
    : ∃ fd : FuncData, (∀ (s : Shared) (v : Value), BindsTo s fd ⟨[v], []⟩ [("script", v)]) ∧ ∀ base : Heap, K.In base → base.Ns mainGlobals mg → FnG l.prog w K mg base 4 fa fd ["script"] (spM K 1 M_law) := by
  obtain ⟨fd, hb, hG⟩ := all_mk (P := l.prog) (w := w) hfa (top_mk X G a1 a2 a3 a4 a5 a6 a7 a8 l8 w8 a9 a10 l10 c10 k10 a11 l11 c11 k11 a12 l12 c12 k12 a13 l13 c13 k13 a14 l14 c14 k14 a15 l15 c15 k15 a16 l16 c16 k16 a17 l17 c17 k17 a18 l18 c18 k18)
  exact ⟨fd, hb, fun base _ _ => hG base⟩
end T5
open PySem PySem.W PyProof.Rows
set_option maxHeartbeats 0 in
theorem PySem.Challenge.cw_heldalways_k05_marks_of_texts_holds : PySem.Challenge.rw_heldalways_k05_marks_of_texts.Holds := by
  w_on; o_law; k_head; (case hw => w_witness2)
  k_fill
  refine Fx.walkG (l := PySem.Challenge.rw_heldalways_k05_marks_of_texts) (n := 63) (k := 4) (x := "script") (M := T5.M_law) rfl (by decide) rfl ⟨rfl, by decide, by decide⟩ (fun w h Y => PySem.W.kIn_of Y) ?F (fun ns _ => T5.call_law ns)
  case F =>
    intro w mg fa h KX G hmg
    refine' T5.all_top KX G hmg ?a1 ?a2 ?a3 ?a4 ?a5 ?a6 ?a7 ?a8 ?l8 ?w8 ?a9 ?a10 ?l10 ?c10 ?k10 ?a11 ?l11 ?c11 ?k11 ?a12 ?l12 ?c12 ?k12 ?a13 ?l13 ?c13 ?k13 ?a14 ?l14 ?c14 ?k14 ?a15 ?l15 ?c15 ?k15 ?a16 ?l16 ?c16 ?k16 ?a17 ?l17 ?c17 ?k17 ?a18 ?l18 ?c18 ?k18
    (case a1 => k_is)
    (case a2 => k_is)
    (case a3 => k_is)
    (case a4 => k_is)
    (case a5 => k_is)
    (case a6 => k_is)
    (case a7 => k_is)
    (case a8 => k_is)
    (case l8 => k_is)
    (case w8 => exact ⟨by decide, rfl⟩)
    (case a9 => k_is)
    (case a10 => k_is)
    (case l10 => k_is)
    (case c10 => k_is)
    (case k10 => k_is)
    (case a11 => k_is)
    (case l11 => k_is)
    (case c11 => k_is)
    (case k11 => k_is)
    (case a12 => k_is)
    (case l12 => k_is)
    (case c12 => k_is)
    (case k12 => k_is)
    (case a13 => k_is)
    (case l13 => k_is)
    (case c13 => k_is)
    (case k13 => k_is)
    (case a14 => k_is)
    (case l14 => k_is)
    (case c14 => k_is)
    (case k14 => k_is)
    (case a15 => k_is)
    (case l15 => k_is)
    (case c15 => k_is)
    (case k15 => k_is)
    (case a16 => k_is)
    (case l16 => k_is)
    (case c16 => k_is)
    (case k16 => k_is)
    (case a17 => k_is)
    (case l17 => k_is)
    (case c17 => k_is)
    (case k17 => k_is)
    (case a18 => k_is)
    (case l18 => k_is)
    (case c18 => k_is)
    (case k18 => k_is)
