import PyProof.Rows.All
import Wide.All
import OpenK.AllK
import Wide.FinOn
import HandS.ForMost
import HandS.ForExc
import HandS.Deep
import HandS.Wide
import HandS.TupAny
import HandS.TupLe
import KE.LtData
import HandS.IsInst
import HandS.Conv
import HandS.SortInts
import HandS.RaiseMore
import HandS.Zip
import HandS.ForDict
import HandS.StrMore
import HandS.MapJoin
import KE.SortKeyHeap
import HandS.SortKw
import PySem.Challenge.RW_cubebook_k11_values_at_a_level
set_option Elab.async false
set_option linter.all false
set_option maxRecDepth 100000
set_option maxHeartbeats 4000000
set_option Elab.async false
set_option linter.all false
set_option maxRecDepth 100000
set_option maxHeartbeats 4000000
/-! MV: a value layer over the hand layer: data as PyData, a mirror for each def, own lists by ownership. -/
namespace MV
open PySem L2

abbrev D := PyData
abbrev Env := List (Option D)

inductive R (α : Type) where
  | ok (a : α)
  | exc (n : Str)
  | stuck
def R.bind {α β : Type} : R α → (α → R β) → R β
  | .ok a, f => f a
  | .exc n, _ => .exc n
  | .stuck, _ => .stuck
@[simp] theorem R.bind_ok {α β : Type} (a : α) (f : α → R β) : (R.ok a).bind f = f a := rfl
@[simp] theorem R.bind_exc {α β : Type} (n : Str) (f : α → R β) : (R.exc n).bind f = .exc n := rfl
@[simp] theorem R.bind_stuck {α β : Type} (f : α → R β) : (R.stuck : R α).bind f = .stuck := rfl

/-! ### data in the heap -/
def SLo (O : List Addr) (H : Hp) (a : Addr) (xs : List V) : Prop := a ∉ O ∧ Rd H a (.lst xs)
def STo (O : List Addr) (H : Hp) (a : Addr) (xs : List V) : Prop := a ∉ O ∧ Rd H a (.tup xs)

mutual
inductive Rp (K : PySem.W.Frag) (O : List Addr) (H : Hp) : V → PyData → Prop
  | non : Rp K O H .non .none
  | bl (b : Bool) : Rp K O H (.bl b) (.bool b)
  | int (i : Int) : Rp K O H (.int i) (.int i)
  | str (x : Str) : PyData.strOk x = true → Rp K O H (.str x) (.str x)
  | lst {a : Addr} {xs : List V} {ds : List PyData} : SLo O H a xs → RpAll K O H xs ds → Rp K O H (.ref a) (.list ds)
  | tup {a : Addr} {xs : List V} {ds : List PyData} : STo O H a xs → RpAll K O H xs ds → Rp K O H (.ref a) (.tuple ds)
inductive RpAll (K : PySem.W.Frag) (O : List Addr) (H : Hp) : List V → List PyData → Prop
  | nil : RpAll K O H [] []
  | cons {v : V} {vs : List V} {d : PyData} {ds : List PyData} : Rp K O H v d → RpAll K O H vs ds → RpAll K O H (v :: vs) (d :: ds)
end
section
variable {K : PySem.W.Frag} {O O' : List Addr} {H H' : Hp}
mutual
theorem Rp.dp : ∀ (d : PyData) (v : V), Rp K O H v d → Dp K H v d
  | .none, _, h => by cases h; exact .non
  | .bool b, _, h => by cases h; exact .bl b
  | .int i, _, h => by cases h; exact .int i
  | .str x, _, h => by cases h; exact .str x
  | .list ds, _, h => by cases h with | lst hs ha => exact .lst (.inl hs.2) (RpAll.dp ds _ ha)
  | .tuple ds, _, h => by cases h with | tup hs ha => exact .tup (.inl hs.2) (RpAll.dp ds _ ha)
  | .dict _, _, h => by cases h
theorem RpAll.dp : ∀ (ds : List PyData) (vs : List V), RpAll K O H vs ds → DpAll K H vs ds
  | [], _, h => by cases h; exact .nil
  | d :: ds, _, h => by cases h with | cons h1 h2 => exact .cons (Rp.dp d _ h1) (RpAll.dp ds _ h2)
end
mutual
theorem Rp.map (hr : ∀ a u, a ∉ O → Rd H a u → a ∉ O' ∧ Rd H' a u) : ∀ (d : PyData) (v : V), Rp K O H v d → Rp K O' H' v d
  | .none, _, h => by cases h; exact .non
  | .bool b, _, h => by cases h; exact .bl b
  | .int i, _, h => by cases h; exact .int i
  | .str x, _, h => by cases h with | str _ h => exact .str x h
  | .list ds, _, h => by cases h with | lst hs ha => exact .lst (hr _ _ hs.1 hs.2) (RpAll.map hr ds _ ha)
  | .tuple ds, _, h => by cases h with | tup hs ha => exact .tup (hr _ _ hs.1 hs.2) (RpAll.map hr ds _ ha)
  | .dict _, _, h => by cases h
theorem RpAll.map (hr : ∀ a u, a ∉ O → Rd H a u → a ∉ O' ∧ Rd H' a u) : ∀ (ds : List PyData) (vs : List V), RpAll K O H vs ds → RpAll K O' H' vs ds
  | [], _, h => by cases h; exact .nil
  | d :: ds, _, h => by cases h with | cons h1 h2 => exact .cons (Rp.map hr d _ h1) (RpAll.map hr ds _ h2)
end
end

/-- all that is not own is as it was -/
def Ge (O : List Addr) (H H' : Hp) : Prop := ∀ a o, a ∉ O → H a = some o → H' a = some o
theorem Ge.of_same {O : List Addr} {H H' : Hp} (h : Same H H') : Ge O H H' := fun a o _ e => h a o e
theorem Same.refl {H : Hp} : Same H H := fun _ _ e => e
theorem Same.tr {H H' H2 : Hp} (h : Same H H') (k : Same H' H2) : Same H H2 := fun a o e => k a o (h a o e)
theorem same_upd {H : Hp} {p : Addr} {o : HO} (h : H p = none) : Same H (upd H p o) := fun a u e => by rw [upd_ne (ne_of_none e h)]; exact e
theorem Rd.same {H H' : Hp} {a : Addr} {u : HO} (s : Same H H') (h : Rd H a u) : Rd H' a u := h.imp (s a _) fun ⟨o, e⟩ => ⟨o, s a _ e⟩
theorem SqL.same {K : PySem.W.Frag} {H H' : Hp} {a : Addr} {xs : List V} (s : Same H H') (h : SqL K H a xs) : SqL K H' a xs := h.imp (Rd.same s) id
theorem SqT.same {K : PySem.W.Frag} {H H' : Hp} {a : Addr} {xs : List V} (s : Same H H') (h : SqT K H a xs) : SqT K H' a xs := h.imp (Rd.same s) id
section
variable {K : PySem.W.Frag} {O O' : List Addr} {H H' : Hp} {v : V} {d : PyData} {vs : List V} {ds : List PyData} {p : Addr}
theorem ge_rd (g : Ge O H H') : ∀ a u, a ∉ O → Rd H a u → a ∉ O ∧ Rd H' a u := fun a _ ho r => ⟨ho, r.imp (g a _ ho) fun ⟨o, e⟩ => ⟨o, g a _ ho e⟩⟩
theorem Rp.ge (g : Ge O H H') (h : Rp K O H v d) : Rp K O H' v d := Rp.map (ge_rd g) d v h
theorem RpAll.ge (g : Ge O H H') (h : RpAll K O H vs ds) : RpAll K O H' vs ds := RpAll.map (ge_rd g) ds vs h
theorem Rp.same (g : Same H H') (h : Rp K O H v d) : Rp K O H' v d := h.ge (Ge.of_same g)
theorem RpAll.same (g : Same H H') (h : RpAll K O H vs ds) : RpAll K O H' vs ds := h.ge (Ge.of_same g)
theorem Rp.sub (g : ∀ a ∈ O', a ∈ O) (h : Rp K O H v d) : Rp K O' H v d := Rp.map (fun a u ho r => ⟨fun z => ho (g a z), r⟩) d v h
theorem RpAll.sub (g : ∀ a ∈ O', a ∈ O) (h : RpAll K O H vs ds) : RpAll K O' H vs ds := RpAll.map (fun a u ho r => ⟨fun z => ho (g a z), r⟩) ds vs h
theorem Rd.ne {a : Addr} {u : HO} (r : Rd H a u) (hp : H p = none) : a ≠ p := by
  rcases r with e | ⟨_, e⟩
  · exact ne_of_none e hp
  · exact ne_of_none e hp
theorem fresh_rd (hp : H p = none) : ∀ a u, a ∉ O → Rd H a u → a ∉ p :: O ∧ Rd H a u := fun a u ho r => ⟨fun z => (List.mem_cons.mp z).elim (fun e => MV.Rd.ne r hp e) ho, r⟩
theorem Rp.fresh (hp : H p = none) (h : Rp K O H v d) : Rp K (p :: O) H v d := Rp.map (fresh_rd hp) d v h
theorem RpAll.fresh (hp : H p = none) (h : RpAll K O H vs ds) : RpAll K (p :: O) H vs ds := RpAll.map (fresh_rd hp) ds vs h
theorem RpAll.length : ∀ {vs : List V} {ds : List PyData}, RpAll K O H vs ds → vs.length = ds.length
  | _, [], h => by cases h; rfl
  | _, d :: ds, h => by cases h with | cons h1 h2 => simp [RpAll.length h2]
theorem RpAll.get : ∀ {vs : List V} {ds : List PyData} {i : Nat} {d : PyData}, RpAll K O H vs ds → ds[i]? = some d → ∃ v, vs[i]? = some v ∧ Rp K O H v d
  | _, [], _, _, h, e => by simp at e
  | _, d :: ds, 0, _, h, e => by cases h with | cons h1 h2 => simp at e; subst e; exact ⟨_, rfl, h1⟩
  | _, d :: ds, i + 1, _, h, e => by cases h with | cons h1 h2 => simpa using RpAll.get h2 (by simpa using e)
theorem RpAll.get' {vs : List V} {ds : List PyData} {i : Nat} {v : V} (h : RpAll K O H vs ds) (e : vs[i]? = some v) : ∃ d, ds[i]? = some d ∧ Rp K O H v d := by
  have hl := h.length
  obtain ⟨hi, _⟩ := List.getElem?_eq_some_iff.mp e
  have : ds[i]? = some ds[i] := List.getElem?_eq_getElem (by omega)
  obtain ⟨v', e', r⟩ := h.get this
  rw [e] at e'; cases e'
  exact ⟨_, this, r⟩
theorem RpAll.append : ∀ {vs us : List V} {ds es : List PyData}, RpAll K O H vs ds → RpAll K O H us es → RpAll K O H (vs ++ us) (ds ++ es)
  | _, _, [], _, h, k => by cases h; exact k
  | _, _, d :: ds, _, h, k => by cases h with | cons h1 h2 => exact .cons h1 (RpAll.append h2 k)
theorem RpAll.take : ∀ {vs : List V} {ds : List PyData} (n : Nat), RpAll K O H vs ds → RpAll K O H (vs.take n) (ds.take n)
  | _, [], n, h => by cases h; simp; exact .nil
  | _, d :: ds, 0, h => by simp; exact .nil
  | _, d :: ds, n + 1, h => by cases h with | cons h1 h2 => exact .cons h1 (RpAll.take n h2)
theorem RpAll.drop : ∀ {vs : List V} {ds : List PyData} (n : Nat), RpAll K O H vs ds → RpAll K O H (vs.drop n) (ds.drop n)
  | _, [], n, h => by cases h; simp; exact .nil
  | _, d :: ds, 0, h => h
  | _, d :: ds, n + 1, h => by cases h with | cons h1 h2 => exact RpAll.drop n h2
theorem RpAll.one (h : Rp K O H v d) : RpAll K O H [v] [d] := .cons h .nil
theorem RpAll.set : ∀ {vs : List V} {ds : List PyData} (i : Nat), RpAll K O H vs ds → Rp K O H v d → RpAll K O H (vs.set i v) (ds.set i d)
  | _, [], i, h, _ => by cases h; exact .nil
  | _, e :: ds, 0, h, k => by cases h with | cons h1 h2 => exact .cons k h2
  | _, e :: ds, i + 1, h, k => by cases h with | cons h1 h2 => exact .cons h1 (RpAll.set i h2 k)
end

/-! ### what a borrowed thing, an own thing is -/
/-- the root of a borrowed list: it may be own, its items are not -/
def RootAt (K : PySem.W.Frag) (O : List Addr) (Hr H : Hp) (p : Addr) : PyData → Prop
  | .list ds => ∃ xs, Rd Hr p (.lst xs) ∧ RpAll K O H xs ds
  | _ => False
def Rs (K : PySem.W.Frag) (O : List Addr) (Hr H : Hp) (v : V) (d : PyData) : Prop := Rp K O H v d ∨ ∃ p, v = .ref p ∧ RootAt K O Hr H p d
def OwnAt (K : PySem.W.Frag) (O : List Addr) (H : Hp) (p : Addr) : PyData → Prop
  | .list ds => ∃ xs, H p = some (.lst xs) ∧ RpAll K O H xs ds
  | _ => False
section
variable {K : PySem.W.Frag} {O O' : List Addr} {Hr Hr' H H' : Hp} {v : V} {d : PyData} {p : Addr}
theorem RootAt.ge (hr : Same Hr Hr') (g : Ge O H H') (h : RootAt K O Hr H p d) : RootAt K O Hr' H' p d := by
  cases d <;> first | exact h.elim | skip
  obtain ⟨xs, h1, h2⟩ := h
  exact ⟨xs, Rd.same hr h1, h2.ge g⟩
theorem RootAt.sub (g : ∀ a ∈ O', a ∈ O) (h : RootAt K O Hr H p d) : RootAt K O' Hr H p d := by
  cases d <;> first | exact h.elim | skip
  obtain ⟨xs, h1, h2⟩ := h
  exact ⟨xs, h1, h2.sub g⟩
theorem RootAt.fresh {q : Addr} (g : H q = none) (h : RootAt K O Hr H p d) : RootAt K (q :: O) Hr H p d := by
  cases d <;> first | exact h.elim | skip
  obtain ⟨xs, h1, h2⟩ := h
  exact ⟨xs, h1, h2.fresh g⟩
theorem Rs.ge (hr : Same Hr Hr') (g : Ge O H H') (h : Rs K O Hr H v d) : Rs K O Hr' H' v d := h.imp (Rp.ge g) fun ⟨p, e, q⟩ => ⟨p, e, q.ge hr g⟩
theorem Rs.sub (g : ∀ a ∈ O', a ∈ O) (h : Rs K O Hr H v d) : Rs K O' Hr H v d := h.imp (Rp.sub g) fun ⟨p, e, q⟩ => ⟨p, e, q.sub g⟩
theorem Rs.fresh {q : Addr} (g : H q = none) (h : Rs K O Hr H v d) : Rs K (q :: O) Hr H v d := h.imp (Rp.fresh g) fun ⟨p, e, z⟩ => ⟨p, e, z.fresh g⟩
theorem OwnAt.ge (g : Ge O H H') (hp : H' p = H p) (h : OwnAt K O H p d) : OwnAt K O H' p d := by
  cases d <;> first | exact h.elim | skip
  obtain ⟨xs, h1, h2⟩ := h
  exact ⟨xs, hp.trans h1, h2.ge g⟩
theorem OwnAt.sub (g : ∀ a ∈ O', a ∈ O) (h : OwnAt K O H p d) : OwnAt K O' H p d := by
  cases d <;> first | exact h.elim | skip
  obtain ⟨xs, h1, h2⟩ := h
  exact ⟨xs, h1, h2.sub g⟩
theorem OwnAt.fresh {q : Addr} (g : H q = none) (h : OwnAt K O H p d) : OwnAt K (q :: O) H p d := by
  cases d <;> first | exact h.elim | skip
  obtain ⟨xs, h1, h2⟩ := h
  exact ⟨xs, h1, h2.fresh g⟩
theorem OwnAt.root (h : OwnAt K O H p d) : RootAt K O H H p d := by
  cases d <;> first | exact h.elim | skip
  obtain ⟨xs, h1, h2⟩ := h
  exact ⟨xs, .inl h1, h2⟩
theorem OwnAt.some (h : OwnAt K O H p d) : ∃ o, H p = some o := by
  cases d <;> first | exact h.elim | skip
  obtain ⟨xs, h1, h2⟩ := h
  exact ⟨_, h1⟩
/-- an own thing is given up -/
theorem OwnAt.give (h : OwnAt K O H p d) (hs : ∀ a ∈ O', a ∈ O) (hp : p ∉ O') : Rp K O' H (.ref p) d := by
  cases d <;> first | exact h.elim | skip
  obtain ⟨xs, h1, h2⟩ := h
  exact .lst ⟨hp, .inl h1⟩ (h2.sub hs)
end

/-! ### the state -/
structure Stt (K : PySem.W.Frag) (H0 : Hp) (O0 : List Addr) (B Ω : List Nat) (O : List Addr) (H : Hp) (σ : St) (ρ : Env) : Prop where
  keep : Same H0 H
  trk0 : ∀ a ∈ O0, H0 a ≠ none
  sub : ∀ a ∈ O0, a ∈ O
  trk : ∀ a ∈ O, H a ≠ none
  fz : ∀ (i : Nat) (d : D), ρ[i]? = some (some d) → i ∉ Ω → i ∉ B → ∃ v, σ[i]? = some (some v) ∧ Rp K O H v d
  bor : ∀ (i : Nat) (d : D), ρ[i]? = some (some d) → i ∉ Ω → i ∈ B → ∃ v, σ[i]? = some (some v) ∧ Rs K O H0 H v d
  ow : ∀ (i : Nat) (d : D), ρ[i]? = some (some d) → i ∈ Ω → ∃ p, σ[i]? = some (some (V.ref p)) ∧ p ∈ O ∧ H0 p = none ∧ OwnAt K O H p d
  dist : ∀ i ∈ Ω, ∀ j ∈ Ω, i ≠ j → ∀ p d e, ρ[i]? = some (some d) → ρ[j]? = some (some e) → σ[i]? = some (some (V.ref p)) → σ[j]? ≠ some (some (V.ref p))
  len : σ.length = ρ.length
/-- what a step may have done: own things changed, new ones came -/
structure Step (O : List Addr) (H : Hp) (O' : List Addr) (H' : Hp) : Prop where
  ge : Ge O H H'
  new : ∀ a ∈ O', a ∈ O ∨ H a = none
theorem Step.refl {O : List Addr} {H : Hp} : Step O H O H := ⟨fun _ _ _ e => e, fun _ h => .inl h⟩
theorem Step.of_same {O : List Addr} {H H' : Hp} (s : Same H H') : Step O H O H' := ⟨Ge.of_same s, fun _ h => .inl h⟩
theorem Step.tr {O O1 O2 : List Addr} {H H1 H2 : Hp} (a : Step O H O1 H1) (b : Step O1 H1 O2 H2) : Step O H O2 H2 := by
  refine ⟨fun x o hx e => b.ge x o (fun z => ?_) (a.ge x o hx e), fun x hx => ?_⟩
  · rcases a.new x z with q | q
    · exact hx q
    · rw [e] at q; cases q
  · rcases b.new x hx with q | q
    · exact a.new x q
    · by_cases ho : x ∈ O
      · exact .inl ho
      · cases e : H x with
        | none => exact .inr rfl
        | some u => rw [a.ge x u ho e] at q; cases q
section
variable {K : PySem.W.Frag} {H0 : Hp} {O0 : List Addr} {B Ω : List Nat} {O : List Addr} {H H' : Hp} {σ : St} {ρ : Env}
theorem Stt.same (S : Stt K H0 O0 B Ω O H σ ρ) (s : Same H H') : Stt K H0 O0 B Ω O H' σ ρ where
  keep := Same.tr S.keep s
  trk0 := S.trk0
  sub := S.sub
  trk := fun a ha e => by
    cases q : H a with
    | none => exact S.trk a ha q
    | some u => rw [s a u q] at e; cases e
  fz := fun i d e h1 h2 => let ⟨v, e', r⟩ := S.fz i d e h1 h2; ⟨v, e', r.same s⟩
  bor := fun i d e h1 h2 => let ⟨v, e', r⟩ := S.bor i d e h1 h2; ⟨v, e', r.ge Same.refl (Ge.of_same s)⟩
  ow := fun i d e h1 => by
    obtain ⟨p, e', h2, h3, h4⟩ := S.ow i d e h1
    obtain ⟨o, q⟩ := h4.some
    exact ⟨p, e', h2, h3, h4.ge (Ge.of_same s) ((s p o q).trans q.symm)⟩
  dist := S.dist
  len := S.len
/-- a slot takes a value that is no own thing -/
theorem Stt.set {i : Nat} {v : V} {d : D} (S : Stt K H0 O0 B Ω O H σ ρ) (r : Rp K O H v d) (hB : i ∉ B) : Stt K H0 O0 B (Ω.filter (· ≠ i)) O H (σ.set i (some v)) (ρ.set i (some d)) where
  keep := S.keep
  trk0 := S.trk0
  sub := S.sub
  trk := S.trk
  fz := fun j e h1 h2 h3 => by
    by_cases hj : i = j
    · subst hj
      obtain ⟨hl, _⟩ := List.getElem?_eq_some_iff.mp h1
      rw [List.getElem?_set_self (by simpa using hl)] at h1
      cases h1
      exact ⟨v, List.getElem?_set_self (by rw [S.len]; simpa using hl), r⟩
    · rw [List.getElem?_set_ne hj] at h1
      rw [List.getElem?_set_ne hj]
      exact S.fz j e h1 (fun z => h2 (List.mem_filter.mpr ⟨z, by simpa using Ne.symm hj⟩)) h3
  bor := fun j e h1 h2 h3 => by
    have hj : i ≠ j := fun z => hB (z ▸ h3)
    rw [List.getElem?_set_ne hj] at h1
    rw [List.getElem?_set_ne hj]
    exact S.bor j e h1 (fun z => h2 (List.mem_filter.mpr ⟨z, by simpa using Ne.symm hj⟩)) h3
  ow := fun j e h1 h2 => by
    obtain ⟨h2, h3⟩ := List.mem_filter.mp h2
    have hj : i ≠ j := by simpa using (Ne.symm (by simpa using h3 : j ≠ i))
    rw [List.getElem?_set_ne hj] at h1
    rw [List.getElem?_set_ne hj]
    exact S.ow j e h1 h2
  dist := fun j hj k hk hne p d e h1 h2 h3 => by
    obtain ⟨hj, h4⟩ := List.mem_filter.mp hj
    obtain ⟨hk, h5⟩ := List.mem_filter.mp hk
    have a1 : i ≠ j := Ne.symm (by simpa using h4)
    have a2 : i ≠ k := Ne.symm (by simpa using h5)
    rw [List.getElem?_set_ne a1] at h1 h3
    rw [List.getElem?_set_ne a2] at h2
    rw [List.getElem?_set_ne a2]
    exact S.dist j hj k hk hne p d e h1 h2 h3
  len := by simp [S.len]
/-- a slot takes a new own thing -/
theorem Stt.setO {i : Nat} {p : Addr} {d : D} (S : Stt K H0 O0 B Ω O H σ ρ) (s : Same H H') (hp : H p = none) (w : OwnAt K (p :: O) H' p d) (hB : i ∉ B) :
    Stt K H0 O0 B (i :: Ω.filter (· ≠ i)) (p :: O) H' (σ.set i (some (.ref p))) (ρ.set i (some d)) := by
  have S' := S.same s
  have nin : ∀ a ∈ O, a ≠ p := fun a ha e => S.trk a ha (by rw [e]; exact hp)
  have up : ∀ {v : V} {e : D}, Rp K O H v e → Rp K (p :: O) H' v e := fun r => (r.fresh hp).same s
  refine ⟨S'.keep, S.trk0, fun a ha => List.mem_cons_of_mem _ (S.sub a ha), fun a ha => ?_, fun j e h1 h2 h3 => ?_, fun j e h1 h2 h3 => ?_, fun j e h1 h2 => ?_, ?_, by simp [S.len]⟩
  · rcases List.mem_cons.mp ha with rfl | ha
    · obtain ⟨o, q⟩ := w.some; rw [q]; simp
    · exact S'.trk a ha
  · have hj : i ≠ j := fun z => h2 (z ▸ List.mem_cons_self)
    rw [List.getElem?_set_ne hj] at h1
    rw [List.getElem?_set_ne hj]
    obtain ⟨v, q, r⟩ := S.fz j e h1 (fun z => h2 (List.mem_cons_of_mem _ (List.mem_filter.mpr ⟨z, by simpa using Ne.symm hj⟩))) h3
    exact ⟨v, q, up r⟩
  · have hj : i ≠ j := fun z => hB (z ▸ h3)
    rw [List.getElem?_set_ne hj] at h1
    rw [List.getElem?_set_ne hj]
    obtain ⟨v, q, r⟩ := S.bor j e h1 (fun z => h2 (List.mem_cons_of_mem _ (List.mem_filter.mpr ⟨z, by simpa using Ne.symm hj⟩))) h3
    exact ⟨v, q, (r.fresh hp).ge Same.refl (Ge.of_same s)⟩
  · by_cases hj : i = j
    · subst hj
      obtain ⟨hl, _⟩ := List.getElem?_eq_some_iff.mp h1
      rw [List.getElem?_set_self (by simpa using hl)] at h1
      cases h1
      refine ⟨p, List.getElem?_set_self (by rw [S.len]; simpa using hl), List.mem_cons_self, ?_, w⟩
      cases q : H0 p with
      | none => rfl
      | some u => rw [S.keep p u q] at hp; cases hp
    · rw [List.getElem?_set_ne hj] at h1
      rw [List.getElem?_set_ne hj]
      have h2' : j ∈ Ω := by
        rcases List.mem_cons.mp h2 with z | z
        · exact absurd z.symm hj
        · exact (List.mem_filter.mp z).1
      obtain ⟨q, e1, e2, e3, e4⟩ := S.ow j e h1 h2'
      obtain ⟨o, eo⟩ := e4.some
      exact ⟨q, e1, List.mem_cons_of_mem _ e2, e3, (e4.fresh hp).ge (Ge.of_same s) ((s q o eo).trans eo.symm)⟩
  · have own_ne : ∀ j e, i ≠ j → ρ[j]? = some (some e) → j ∈ Ω → σ[j]? ≠ some (some (V.ref p)) := fun j e hj h1 h2 z => by
      obtain ⟨q, e1, e2, _, _⟩ := S.ow j e h1 h2
      rw [z] at e1; cases e1
      exact nin p e2 rfl
    intro j hj k hk hne q d' e' h1 h2 h3
    by_cases a1 : i = j
    · subst a1
      have a2 : i ≠ k := hne
      have hk' : k ∈ Ω := by
        rcases List.mem_cons.mp hk with z | z
        · exact absurd z.symm a2
        · exact (List.mem_filter.mp z).1
      obtain ⟨hl, _⟩ := List.getElem?_eq_some_iff.mp h1
      rw [List.getElem?_set_self (by rw [S.len]; simpa using hl)] at h3
      cases h3
      rw [List.getElem?_set_ne a2] at h2
      rw [List.getElem?_set_ne a2]
      exact own_ne k _ a2 h2 hk'
    · have hj' : j ∈ Ω := by
        rcases List.mem_cons.mp hj with z | z
        · exact absurd z.symm a1
        · exact (List.mem_filter.mp z).1
      rw [List.getElem?_set_ne a1] at h1 h3
      by_cases a2 : i = k
      · subst a2
        obtain ⟨hl, _⟩ := List.getElem?_eq_some_iff.mp h2
        rw [List.getElem?_set_self (by rw [S.len]; simpa using hl)]
        intro z
        cases z
        exact own_ne j _ a1 h1 hj' h3
      · have hk' : k ∈ Ω := by
          rcases List.mem_cons.mp hk with z | z
          · exact absurd z.symm a2
          · exact (List.mem_filter.mp z).1
        rw [List.getElem?_set_ne a2] at h2
        rw [List.getElem?_set_ne a2]
        exact S.dist j hj' k hk' hne q _ _ h1 h2 h3
end
end MV

set_option Elab.async false
set_option linter.all false
set_option maxRecDepth 100000
set_option maxHeartbeats 4000000
namespace MV
open PySem L2

/-! ### more of the state: give up, weaken -/
section
variable {K : PySem.W.Frag} {H0 : Hp} {O0 : List Addr} {B Ω : List Nat} {O : List Addr} {H H' : Hp} {σ : St} {ρ : Env}
/-- an own slot is owned no longer: its thing stays as it is from now on -/
theorem Stt.give (i : Nat) (hB : i ∉ B) (S : Stt K H0 O0 B Ω O H σ ρ) : ∃ O', Step O H O' H ∧ Stt K H0 O0 B (Ω.filter (· ≠ i)) O' H σ ρ := by
  have same : Stt K H0 O0 B Ω O H σ ρ → (∀ d, ρ[i]? = some (some d) → i ∉ Ω) → Stt K H0 O0 B (Ω.filter (· ≠ i)) O H σ ρ := fun S hn => by
    refine ⟨S.keep, S.trk0, S.sub, S.trk, fun j d h1 h2 h3 => S.fz j d h1 (fun z => ?_) h3, fun j d h1 h2 h3 => S.bor j d h1 (fun z => ?_) h3, fun j d h1 h2 => S.ow j d h1 (List.mem_filter.mp h2).1, fun j hj k hk => S.dist j (List.mem_filter.mp hj).1 k (List.mem_filter.mp hk).1, S.len⟩
    · by_cases hj : j = i
      · subst hj; exact hn d h1 z
      · exact h2 (List.mem_filter.mpr ⟨z, by simpa using hj⟩)
    · by_cases hj : j = i
      · subst hj; exact hn d h1 z
      · exact h2 (List.mem_filter.mpr ⟨z, by simpa using hj⟩)
  by_cases hi : i ∈ Ω
  · by_cases hd : ∃ d, ρ[i]? = some (some d)
    · obtain ⟨d, hd⟩ := hd
      obtain ⟨p, e1, e2, e3, e4⟩ := S.ow i d hd hi
      have sb : ∀ a ∈ O.filter (· ≠ p), a ∈ O := fun a ha => (List.mem_filter.mp ha).1
      have np : p ∉ O.filter (· ≠ p) := fun z => by simpa using (List.mem_filter.mp z).2
      refine ⟨O.filter (· ≠ p), ⟨fun _ _ _ e => e, fun a ha => .inl (sb a ha)⟩, S.keep, S.trk0, fun a ha => List.mem_filter.mpr ⟨S.sub a ha, ?_⟩, fun a ha => S.trk a (sb a ha), fun j e h1 h2 h3 => ?_, fun j e h1 h2 h3 => ?_, fun j e h1 h2 => ?_, fun j hj k hk => S.dist j (List.mem_filter.mp hj).1 k (List.mem_filter.mp hk).1, S.len⟩
      · simp only [ne_eq, decide_not, Bool.not_eq_eq_eq_not, Bool.not_true, decide_eq_false_iff_not]
        rintro rfl
        exact S.trk0 _ ha e3
      · by_cases hj : j = i
        · subst hj
          rw [hd] at h1; cases h1
          exact ⟨_, e1, e4.give sb np⟩
        · obtain ⟨v, q, r⟩ := S.fz j e h1 (fun z => h2 (List.mem_filter.mpr ⟨z, by simpa using hj⟩)) h3
          exact ⟨v, q, r.sub sb⟩
      · have hj : j ≠ i := fun z => hB (z ▸ h3)
        obtain ⟨v, q, r⟩ := S.bor j e h1 (fun z => h2 (List.mem_filter.mpr ⟨z, by simpa using hj⟩)) h3
        exact ⟨v, q, r.sub sb⟩
      · obtain ⟨h2, hne⟩ := List.mem_filter.mp h2
        have hne : j ≠ i := by simpa using hne
        obtain ⟨q, f1, f2, f3, f4⟩ := S.ow j e h1 h2
        refine ⟨q, f1, List.mem_filter.mpr ⟨f2, ?_⟩, f3, f4.sub sb⟩
        have : q ≠ p := fun z => by subst z; exact S.dist j h2 i hi hne q _ _ h1 hd f1 e1
        simpa using this
    · exact ⟨O, Step.refl, same S fun d e _ => hd ⟨d, e⟩⟩
  · exact ⟨O, Step.refl, same S fun _ _ => hi⟩
/-- every own slot is given up -/
theorem Stt.giveAll (hB : ∀ i ∈ Ω, i ∉ B) (S : Stt K H0 O0 B Ω O H σ ρ) : ∃ O', Step O H O' H ∧ Stt K H0 O0 B [] O' H σ ρ := by
  have gen : ∀ (n : Nat) (Ω : List Nat) (O : List Addr), Ω.length ≤ n → (∀ i ∈ Ω, i ∉ B) → Stt K H0 O0 B Ω O H σ ρ → ∃ O', Step O H O' H ∧ Stt K H0 O0 B [] O' H σ ρ := by
    intro n
    induction n with
    | zero =>
      intro Ω O hl _ S
      cases Ω with
      | nil => exact ⟨O, Step.refl, S⟩
      | cons _ _ => simp at hl
    | succ n ih =>
      intro Ω O hl hB S
      cases Ω with
      | nil => exact ⟨O, Step.refl, S⟩
      | cons i r =>
        obtain ⟨O1, s1, S1⟩ := S.give i (hB i List.mem_cons_self)
        have e : (i :: r).filter (· ≠ i) = r.filter (· ≠ i) := by simp
        rw [e] at S1
        obtain ⟨O2, s2, S2⟩ := ih (r.filter (· ≠ i)) O1 (Nat.le_trans (List.length_filter_le _ _) (by simpa using hl)) (fun j hj => hB j (List.mem_cons_of_mem _ (List.mem_filter.mp hj).1)) S1
        exact ⟨O2, s1.tr s2, S2⟩
  exact gen Ω.length Ω O (Nat.le_refl _) hB S
end

/-! ### what is wanted of a result -/
section
variable {α β γ δ : Type}
def Good (mg : Str → Option Value) (W : WX) (σ : St) (Rel : Hp → β → α → Prop) (H : Hp) (r : R α) (Q : β → Hp → Prop) : Prop :=
  match r with
  | .ok d => ∀ v H', Same H H' → Rel H' v d → Q v H'
  | .exc n => ∀ C H', mg n = some (Value.ref C) → Same H H' → W (.ref C) none σ H'
  | .stuck => False
variable {mg : Str → Option Value} {W : WX} {σ : St} {Rel : Hp → β → α → Prop} {Rel2 : Hp → δ → γ → Prop} {H H' : Hp} {r : R α} {Q : β → Hp → Prop} {Q2 : δ → Hp → Prop}
theorem Good.mono (s : Same H H') (h : Good mg W σ Rel H r Q) : Good mg W σ Rel H' r Q := by
  cases r with
  | ok d => exact fun v H2 s2 q => h v H2 (Same.tr s s2) q
  | exc n => exact fun C H2 m s2 => h C H2 m (Same.tr s s2)
  | stuck => exact h
theorem Good.bind {f : α → R γ} (h : Good mg W σ Rel2 H (r.bind f) Q2) (k : ∀ d v H1, r = .ok d → Same H H1 → Rel H1 v d → Good mg W σ Rel2 H1 (f d) Q2 → Q v H1) : Good mg W σ Rel H r Q := by
  cases r with
  | ok d => exact fun v H1 s rp => k d v H1 rfl s rp (Good.mono s h)
  | exc n => exact h
  | stuck => exact h
theorem Good.use {d : α} {v : β} (h : Good mg W σ Rel H (.ok d) Q) (rp : Rel H v d) : Q v H := h v H Same.refl rp
end

/-! ### judgements -/
/-- where one stands -/
structure Gd (X : Cx) (W : WX) (k : Nat) : Prop where
  tk : Takes X W
  hp : PassesOwn (model X.prog X.w) X.A X.env X.xe
  hc : X.calm = true
  nd : X.N.Nodup
  hr : Room k X.A
theorem Gd.hu {X : Cx} {W : WX} {k : Nat} (g : Gd X W k) : X.A.units + 1 < cLine := hu_of g.hr
theorem Gd.u64 {X : Cx} {W : WX} {k : Nat} (g : Gd X W k) : X.A.units + 64 < cLine := g.hr.units
theorem Gd.u65 {X : Cx} {W : WX} {k : Nat} (g : Gd X W k) : X.A.units + 65 < cLine := by have := g.hr.un; omega
def W0 : WX := fun _ _ _ _ => False
theorem Gd.blk {X : Cx} {W : WX} {k : Nat} (g : Gd X W k) (s : Shared) (H : Hp) (scope : Scope) (cenv : PySem.Env) (fp : List Addr) : Gd (X.blk s H scope cenv fp) W0 k where
  tk := fun u s' ⟨a, B, sI, pins, σ, H, cls, d, e, I, nb, up, sky, na, os, ag, w⟩ => w
  hp := PassesOwn.never
  hc := g.hc
  nd := g.nd
  hr := g.hr

section
variable (K : PySem.W.Frag) (mg : Str → Option Value) (W : WX) (B Ω : List Nat)
/-- an expression: frozen data -/
def tX (g : Env → R D) : TE := fun σ H Q => ∃ H0 O0 O ρ, Stt K H0 O0 B Ω O H σ ρ ∧ Good mg W σ (Rp K O) H (g ρ) Q
/-- .. borrowed -/
def tB (g : Env → R D) : TE := fun σ H Q => ∃ H0 O0 O ρ, Stt K H0 O0 B Ω O H σ ρ ∧ Good mg W σ (fun H' => Rs K O H' H') H (g ρ) Q
/-- .. a new own thing -/
def RelO (O : List Addr) (H : Hp) (H' : Hp) (v : V) (d : D) : Prop := ∃ p, v = .ref p ∧ H p = none ∧ OwnAt K (p :: O) H' p d
def tO (g : Env → R D) : TE := fun σ H Q => ∃ H0 O0 O ρ, Stt K H0 O0 B Ω O H σ ρ ∧ Good mg W σ (RelO K O H) H (g ρ) Q
def tT (g : Env → R Bool) : TT := fun σ H Q => ∃ H0 O0 O ρ, Stt K H0 O0 B Ω O H σ ρ ∧ Good mg W σ (fun _ (b c : Bool) => b = c) H (g ρ) Q
def RelA (O : List Addr) (H : Hp) : List V → List (Bool × D) → Prop
  | [], [] => True
  | v :: vs, (b, d) :: ds => (if b = true then Rs K O H H v d else Rp K O H v d) ∧ RelA O H vs ds
  | _, _ => False
def tA (g : Env → R (List (Bool × D))) : TA := fun σ H Q => ∃ H0 O0 O ρ, Stt K H0 O0 B Ω O H σ ρ ∧ Good mg W σ (RelA K O) H (g ρ) Q
end
def PX (X : Cx) (W : WX) (B Ω : List Nat) (e : Expr) (g : Env → R D) : Prop := PE X e (tX X.K X.mg W B Ω g)
def PB (X : Cx) (W : WX) (B Ω : List Nat) (e : Expr) (g : Env → R D) : Prop := PE X e (tB X.K X.mg W B Ω g)
def PO (X : Cx) (W : WX) (B Ω : List Nat) (e : Expr) (g : Env → R D) : Prop := PE X e (tO X.K X.mg W B Ω g)
def PTx (X : Cx) (W : WX) (B Ω : List Nat) (e : Expr) (g : Env → R Bool) : Prop := PT X e (tT X.K X.mg W B Ω g)
def PWx (X : Cx) (W : WX) (B Ω : List Nat) (e : Expr) (g : Env → R Bool) : Prop := PW X e (tT X.K X.mg W B Ω g)
def PAx (X : Cx) (W : WX) (B Ω : List Nat) (es : List Expr) (g : Env → R (List (Bool × D))) : Prop := PA X es (tA X.K X.mg W B Ω g)

theorem PE.imp {X : Cx} {e : Expr} {t t' : TE} (h : PE X e t) (w : ∀ σ H Q, t' σ H Q → t σ H Q) : PE X e t' := ⟨fun pins s σ H Q I q => h.run pins s σ H Q I (w σ H Q q)⟩
theorem PT.imp {X : Cx} {e : Expr} {t t' : TT} (h : PT X e t) (w : ∀ σ H Q, t' σ H Q → t σ H Q) : PT X e t' := ⟨fun pins s σ H Q I q => h.run pins s σ H Q I (w σ H Q q)⟩
theorem PW.imp {X : Cx} {e : Expr} {t t' : TT} (h : PW X e t) (w : ∀ σ H Q, t' σ H Q → t σ H Q) : PW X e t' := ⟨fun wh pins s σ H Q I q => h.run wh pins s σ H Q I (w σ H Q q)⟩
theorem PA.imp {X : Cx} {es : List Expr} {t t' : TA} (h : PA X es t) (w : ∀ σ H Q, t' σ H Q → t σ H Q) : PA X es t' := ⟨fun pos pins s σ H Q I q => h.run pos pins s σ H Q I (w σ H Q q)⟩
theorem PS.imp {X : Cx} {st : Stmt} {t t' : TS} (h : PS X st t) (w : ∀ D σ H, t' D σ H → t D σ H) : PS X st t' := ⟨fun pins s σ H D I q => h.run pins s σ H D I (w D σ H q)⟩
theorem PSs.imp {X : Cx} {st : List Stmt} {t t' : TS} (h : PSs X st t) (w : ∀ D σ H, t' D σ H → t D σ H) : PSs X st t' := ⟨fun pins s σ H D I q => h.run pins s σ H D I (w D σ H q)⟩

section
variable {X : Cx} {W : WX} {B Ω : List Nat} {k : Nat}
/-! ### names, constants -/
def xVar (i : Nat) : Env → R D := fun ρ => match ρ[i]? with
  | some (some d) => .ok d
  | _ => .stuck
def xC (d : D) : Env → R D := fun _ => .ok d
theorem px_int {i : Int} {j pos} : PX X W B Ω (.Constant (.int i) j pos) (xC (.int i)) := PE.imp pe_int fun _ _ _ ⟨_, _, _, _, _, h⟩ => h.use (.int i)
theorem px_bl {b : Bool} {j pos} : PX X W B Ω (.Constant (.bool b) j pos) (xC (.bool b)) := PE.imp pe_bl fun _ _ _ ⟨_, _, _, _, _, h⟩ => h.use (.bl b)
theorem px_non {j pos} : PX X W B Ω (.Constant .none j pos) (xC .none) := PE.imp pe_non fun _ _ _ ⟨_, _, _, _, _, h⟩ => h.use .non
theorem px_str {x : Str} {j pos} (hs : PyData.strOk x = true := by decide +kernel) : PX X W B Ω (.Constant (.str x) j pos) (xC (.str x)) := PE.imp pe_str fun _ _ _ ⟨_, _, _, _, _, h⟩ => h.use (.str x hs)
theorem px_var {i : Nat} {x : Str} {pos : Pos} (hN : X.N[i]? = some x) (hv : Vis X.env.scope x) (ho : Ω.contains i = false) (hb : B.contains i = false) (hd : (x == ("__debug__" : Str)) = false := by decide) (hcd : (x == ("__classdict__" : Str)) = false := by decide) :
    PX X W B Ω (.Name x pos) (xVar i) := PE.imp (pe_var hN hv hd hcd) fun σ H Q ⟨H0, O0, O, ρ, S, h⟩ => by
  have ho : i ∉ Ω := by simpa using ho
  have hb : i ∉ B := by simpa using hb
  unfold xVar at h
  cases e : ρ[i]? with
  | none => rw [e] at h; exact h.elim
  | some o =>
    cases o with
    | none => rw [e] at h; exact h.elim
    | some d =>
      rw [e] at h
      obtain ⟨v, q, r⟩ := S.fz i d e ho hb
      exact ⟨v, q, h.use r⟩
theorem pb_var {i : Nat} {x : Str} {pos : Pos} (hN : X.N[i]? = some x) (hv : Vis X.env.scope x) (hd : (x == ("__debug__" : Str)) = false := by decide) (hcd : (x == ("__classdict__" : Str)) = false := by decide) :
    PB X W B Ω (.Name x pos) (xVar i) := PE.imp (pe_var hN hv hd hcd) fun σ H Q ⟨H0, O0, O, ρ, S, h⟩ => by
  unfold xVar at h
  cases e : ρ[i]? with
  | none => rw [e] at h; exact h.elim
  | some o =>
    cases o with
    | none => rw [e] at h; exact h.elim
    | some d =>
      rw [e] at h
      by_cases ho : i ∈ Ω
      · obtain ⟨p, q, r1, r2, r3⟩ := S.ow i d e ho
        exact ⟨_, q, h.use (.inr ⟨p, rfl, r3.root⟩)⟩
      · by_cases hb : i ∈ B
        · obtain ⟨v, q, r⟩ := S.bor i d e ho hb
          exact ⟨v, q, h.use (r.ge S.keep (Ge.of_same Same.refl))⟩
        · obtain ⟨v, q, r⟩ := S.fz i d e ho hb
          exact ⟨v, q, h.use (.inl r)⟩
/-- frozen data may be borrowed -/
theorem PX.b {e : Expr} {g : Env → R D} (h : PX X W B Ω e g) : PB X W B Ω e g := PE.imp h fun σ H Q ⟨H0, O0, O, ρ, S, h⟩ => by
  refine ⟨H0, O0, O, ρ, S, ?_⟩
  cases q : g ρ with
  | ok d => rw [q] at h; exact fun v H' s r => h v H' s (.inl r)
  | exc n => rw [q] at h; exact h
  | stuck => rw [q] at h; exact h
theorem OwnAt.rp {K : PySem.W.Frag} {O : List Addr} {H' : Hp} {p : Addr} {d : D} (w : OwnAt K (p :: O) H' p d) (ho : p ∉ O) : Rp K O H' (.ref p) d := w.give (fun _ h => List.mem_cons_of_mem _ h) ho
/-- a new own thing may be given up at once -/
theorem PO.x {e : Expr} {g : Env → R D} (h : PO X W B Ω e g) : PX X W B Ω e g := PE.imp h fun σ H Q ⟨H0, O0, O, ρ, S, h⟩ => by
  refine ⟨H0, O0, O, ρ, S, ?_⟩
  cases q : g ρ with
  | ok d =>
    rw [q] at h
    rintro v H' s ⟨p, rfl, hp, w⟩
    exact h _ H' s (w.rp fun z => S.trk p z hp)
  | exc n => rw [q] at h; exact h
  | stuck => rw [q] at h; exact h

/-! ### operators -/
def x2 (f : D → D → R D) (ga gb : Env → R D) : Env → R D := fun ρ => (ga ρ).bind fun x => (gb ρ).bind fun y => f x y
def x1 (f : D → R D) (ga : Env → R D) : Env → R D := fun ρ => (ga ρ).bind f
/-- an operator's rule over data: the operands borrowed, the result frozen -/
def RB (X : Cx) (r : R2) (f : D → D → R D) : Prop := ∀ (O : List Addr) (H : Hp) (x y : V) (dx dy d : D) (Q : VK), (∀ a ∈ O, H a ≠ none) → Rs X.K O H H x dx → Rs X.K O H H y dy → f dx dy = .ok d → (∀ v H', Same H H' → Rp X.K O H' v d → Q v H') → r x y H Q
/-- .. frozen operands -/
def RX (X : Cx) (r : R2) (f : D → D → R D) : Prop := ∀ (O : List Addr) (H : Hp) (x y : V) (dx dy d : D) (Q : VK), (∀ a ∈ O, H a ≠ none) → Rp X.K O H x dx → Rp X.K O H y dy → f dx dy = .ok d → (∀ v H', Same H H' → Rp X.K O H' v d → Q v H') → r x y H Q
/-- it never raises -/
def NoX (f : D → D → R D) : Prop := ∀ x y n, f x y ≠ .exc n
section
variable {mg : Str → Option Value} {σ : St} {H : Hp} {O : List Addr} {K : PySem.W.Frag} {Q : VK} {d : R D}
theorem Good.ok_of {Rel : Hp → V → D → Prop} (h : Good mg W σ Rel H d Q) (hn : ∀ n, d ≠ .exc n) : ∃ z, d = .ok z := by
  cases d with
  | ok z => exact ⟨z, rfl⟩
  | exc n => exact absurd rfl (hn n)
  | stuck => exact h.elim
end
variable {a b : Expr} {ga gb : Env → R D} {r : R2} {f : D → D → R D} {pos : Pos} {op : Operator} {cop : CmpOp}
theorem pb_bin {P : V → V → Hp → VK → Prop} (hn : NoX f) (hr : RB X P f) {σ : St} {H : Hp} {Q : VK} (h : tX X.K X.mg W B Ω (x2 f ga gb) σ H Q) :
    tB X.K X.mg W B Ω ga σ H fun x H1 => tB X.K X.mg W B Ω gb σ H1 fun y H2 => P x y H2 Q := by
  obtain ⟨H0, O0, O, ρ, S, h⟩ := h
  refine ⟨H0, O0, O, ρ, S, Good.bind (f := fun x => (gb ρ).bind fun y => f x y) h fun x v H1 e1 s1 r1 h1 => ⟨H0, O0, O, ρ, S.same s1, Good.bind (f := fun y => f x y) h1 fun y u H2 e2 s2 r2 h2 => ?_⟩⟩
  obtain ⟨z, e⟩ := h2.ok_of (hn x y)
  rw [e] at h2
  exact hr O H2 v u x y z Q ((S.same s1).same s2).trk (r1.ge s2 (Ge.of_same s2)) r2 e h2
theorem px_bin {P : V → V → Hp → VK → Prop} (hn : NoX f) (hr : RX X P f) {σ : St} {H : Hp} {Q : VK} (h : tX X.K X.mg W B Ω (x2 f ga gb) σ H Q) :
    tX X.K X.mg W B Ω ga σ H fun x H1 => tX X.K X.mg W B Ω gb σ H1 fun y H2 => P x y H2 Q := by
  obtain ⟨H0, O0, O, ρ, S, h⟩ := h
  refine ⟨H0, O0, O, ρ, S, Good.bind (f := fun x => (gb ρ).bind fun y => f x y) h fun x v H1 e1 s1 r1 h1 => ⟨H0, O0, O, ρ, S.same s1, Good.bind (f := fun y => f x y) h1 fun y u H2 e2 s2 r2 h2 => ?_⟩⟩
  obtain ⟨z, e⟩ := h2.ok_of (hn x y)
  rw [e] at h2
  exact hr O H2 v u x y z Q ((S.same s1).same s2).trk (r1.same s2) r2 e h2
theorem px_op (ho : OpR X (binaryOp op) r) (hn : NoX f) (hr : RB X r f) (ha : PB X W B Ω a ga) (hb : PB X W B Ω b gb) : PX X W B Ω (.BinOp a op b pos) (x2 f ga gb) :=
  PE.imp (pe_op ho ha hb) fun σ H Q h => pb_bin hn hr h
theorem px_cmp (ho : OpR X (compareOp cop) r) (hm : behindInMarks cop b = false) (hn : NoX f) (hr : RB X r f) (ha : PB X W B Ω a ga) (hb : PB X W B Ω b gb) : PX X W B Ω (.Compare a [cop] [b] pos) (x2 f ga gb) :=
  PE.imp (pe_cmpR ho ha hb hm) fun σ H Q h => pb_bin hn hr h
theorem OpR.or {F : Value → Value → Sem Value} {r1 r2 : R2} (h1 : OpR X F r1) (h2 : OpR X F r2) : OpR X F (fun x y H Q => r1 x y H Q ∨ r2 x y H Q) := by
  intro pins s σ H x y v u Q I rx ry h
  rcases h with h | h
  · exact h1 pins s σ H x y v u Q I rx ry h
  · exact h2 pins s σ H x y v u Q I rx ry h
end
end MV

set_option Elab.async false
set_option linter.all false
set_option maxRecDepth 100000
set_option maxHeartbeats 4000000
namespace MV
open PySem L2

/-! ### what stands behind data -/
section
variable {K : PySem.W.Frag} {O : List Addr} {H H' : Hp} {v : V}
theorem Rs.non (h : Rs K O H H' v .none) : v = .non := by
  rcases h with h | ⟨p, rfl, h⟩
  · cases h; rfl
  · exact h.elim
theorem Rs.bool {b : Bool} (h : Rs K O H H' v (.bool b)) : v = .bl b := by
  rcases h with h | ⟨p, rfl, h⟩
  · cases h; rfl
  · exact h.elim
theorem Rs.int {i : Int} (h : Rs K O H H' v (.int i)) : v = .int i := by
  rcases h with h | ⟨p, rfl, h⟩
  · cases h; rfl
  · exact h.elim
theorem Rs.str {x : Str} (h : Rs K O H H' v (.str x)) : v = .str x ∧ PyData.strOk x = true := by
  rcases h with h | ⟨p, rfl, h⟩
  · cases h with | str _ h => exact ⟨rfl, h⟩
  · exact h.elim
theorem Rs.lst {ds : List D} (h : Rs K O H H v (.list ds)) : ∃ p xs, v = .ref p ∧ Rd H p (.lst xs) ∧ RpAll K O H xs ds := by
  rcases h with h | ⟨p, rfl, h⟩
  · cases h with | lst hs ha => exact ⟨_, _, rfl, hs.2, ha⟩
  · obtain ⟨xs, h1, h2⟩ := h
    exact ⟨p, xs, rfl, h1, h2⟩
theorem Rs.tup {ds : List D} (h : Rs K O H H' v (.tuple ds)) : ∃ p xs, v = .ref p ∧ (p ∉ O ∧ Rd H' p (.tup xs)) ∧ RpAll K O H' xs ds := by
  rcases h with h | ⟨p, rfl, h⟩
  · cases h with | tup hs ha => exact ⟨_, _, rfl, hs, ha⟩
  · exact h.elim
theorem Rs.dict {ds : List (D × D)} (h : Rs K O H H' v (.dict ds)) : False := by
  rcases h with h | ⟨p, rfl, h⟩
  · cases h
  · exact h.elim
theorem Rs.dp {d : D} (h : Rs K O H H v d) : Dp K H v d := by
  rcases h with h | ⟨p, rfl, h⟩
  · exact Rp.dp d v h
  · cases d <;> first | exact h.elim | skip
    obtain ⟨xs, h1, h2⟩ := h
    exact .lst (.inl h1) (RpAll.dp _ _ h2)
theorem Rp.atom_int (i : Int) : Rp K O H (.int i) (.int i) := .int i
theorem sqT_of {p : Addr} {xs : List V} (h : p ∉ O ∧ Rd H p (.tup xs)) : SqT K H p xs := .inl h.2
end
theorem rd_upd {H : Hp} {p : Addr} {o : HO} : Rd (upd H p o) p o := .inl upd_same
section
variable {K : PySem.W.Frag} {O : List Addr} {H : Hp} {p : Addr} {xs : List V} {ds : List D}
theorem new_tup (ht : ∀ a ∈ O, H a ≠ none) (hp : H p = none) (h : RpAll K O H xs ds) : Rp K O (upd H p (.tup xs)) (.ref p) (.tuple ds) :=
  .tup ⟨fun z => ht p z hp, rd_upd⟩ (h.same (same_upd hp))
theorem new_lst (ht : ∀ a ∈ O, H a ≠ none) (hp : H p = none) (h : RpAll K O H xs ds) : Rp K O (upd H p (.lst xs)) (.ref p) (.list ds) :=
  .lst ⟨fun z => ht p z hp, rd_upd⟩ (h.same (same_upd hp))
theorem new_own (hp : H p = none) (h : RpAll K O H xs ds) : OwnAt K (p :: O) (upd H p (.lst xs)) p (.list ds) :=
  ⟨xs, upd_same, (h.fresh hp).same (same_upd hp)⟩
end
theorem strOk_app {x y : Str} (hx : PyData.strOk x = true) (hy : PyData.strOk y = true) : PyData.strOk (x ++ y) = true := by
  have e : (x ++ y).cps = x.cps ++ y.cps := rfl
  unfold PyData.strOk at *
  rw [e]
  simp only [Array.all_append, hx, hy, Bool.and_self]

/-! ### shapes -/
def shp : Nat → D → Bool
  | _, .none => true
  | _, .bool _ => true
  | _, .int _ => true
  | _, .str _ => true
  | _, .dict _ => false
  | 0, .list _ => false
  | 0, .tuple _ => false
  | n + 1, .list ds => ds.all (shp n)
  | n + 1, .tuple ds => ds.all (shp n)
theorem depthAll_le {n : Nat} : ∀ {ds : List D}, (∀ d ∈ ds, d.depth ≤ n) → PyData.depthAll ds ≤ n
  | [], _ => by simp [PyData.depthAll]
  | d :: ds, h => by
    have h1 := h d List.mem_cons_self
    have h2 := depthAll_le (ds := ds) fun e he => h e (List.mem_cons_of_mem _ he)
    simp only [PyData.depthAll]
    omega
theorem shp_depth : ∀ (n : Nat) (d : D), shp n d = true → d.depth ≤ n
  | _, .none, _ => by simp [PyData.depth]
  | _, .bool _, _ => by simp [PyData.depth]
  | _, .int _, _ => by simp [PyData.depth]
  | _, .str _, _ => by simp [PyData.depth]
  | n, .dict _, h => by cases n <;> simp [shp] at h
  | 0, .list _, h => by simp [shp] at h
  | 0, .tuple _, h => by simp [shp] at h
  | n + 1, .list ds, h => by
    simp only [shp, List.all_eq_true] at h
    have := depthAll_le (ds := ds) fun e he => shp_depth n e (h e he)
    simp only [PyData.depth]; omega
  | n + 1, .tuple ds, h => by
    simp only [shp, List.all_eq_true] at h
    have := depthAll_le (ds := ds) fun e he => shp_depth n e (h e he)
    simp only [PyData.depth]; omega
section
variable {K : PySem.W.Frag} {O : List Addr} {H : Hp}
mutual
theorem Rp.lay : ∀ (d : D) (v : V), Rp K O H v d → d.canLay0 = true
  | .none, _, _ => by simp [PyData.canLay0]
  | .bool b, _, _ => by simp [PyData.canLay0]
  | .int i, _, _ => by simp [PyData.canLay0]
  | .str x, _, h => by cases h with | str _ h => simpa [PyData.canLay0] using h
  | .list ds, _, h => by cases h with | lst hs ha => simpa [PyData.canLay0] using RpAll.lay ds _ ha
  | .tuple ds, _, h => by cases h with | tup hs ha => simpa [PyData.canLay0] using RpAll.lay ds _ ha
  | .dict _, _, h => by cases h
theorem RpAll.lay : ∀ (ds : List D) (vs : List V), RpAll K O H vs ds → PyData.canLayAll0 ds = true
  | [], _, _ => by simp [PyData.canLayAll0]
  | d :: ds, _, h => by cases h with | cons h1 h2 => simp [PyData.canLayAll0, Rp.lay d _ h1, RpAll.lay ds _ h2]
end
theorem Rs.lay {v : V} {d : D} (h : Rs K O H H v d) : d.canLay0 = true := by
  rcases h with h | ⟨p, rfl, h⟩
  · exact Rp.lay d v h
  · cases d <;> first | exact h.elim | skip
    obtain ⟨xs, h1, h2⟩ := h
    simpa [PyData.canLay0] using RpAll.lay _ _ h2
theorem shaped_of {v : V} {d : D} (h : Rs K O H H v d) (hs : shp 16 d = true) : SeqAt.shaped d = true := by
  have h1 := shp_depth 16 d hs
  show (d.canLay0 && decide (d.depth ≤ 64)) = true
  rw [h.lay, Bool.true_and]
  exact decide_eq_true (by omega)
end

/-! ### the operators over data -/
def okIf (c : Bool) (d : D) : R D := if c = true then .ok d else .stuck
theorem okIf_ok {c : Bool} {d e : D} (h : okIf c d = .ok e) : c = true ∧ d = e := by
  unfold okIf at h
  split at h
  · injection h with h; exact ⟨by assumption, h⟩
  · cases h
@[simp] theorem okIf_exc {c : Bool} {d : D} {n : Str} : (okIf c d = .exc n) = False := by
  unfold okIf; split <;> simp
def addD : D → D → R D
  | .int i, .int j => .ok (.int (i + j))
  | .str x, .str y => okIf (decide (x.length + y.length ≤ sizeLine)) (.str (x ++ y))
  | .list xs, .list ys => okIf (decide (xs.length + ys.length ≤ sizeLine)) (.list (xs ++ ys))
  | .tuple xs, .tuple ys => okIf (decide (xs.length + ys.length ≤ sizeLine)) (.tuple (xs ++ ys))
  | _, _ => .stuck
def subD : D → D → R D
  | .int i, .int j => .ok (.int (i - j))
  | _, _ => .stuck
def mulOk (i j : Int) : Bool := (decide (-(2 ^ 64) < i) && decide (i < 2 ^ 64)) || (decide (-(2 ^ 64) < j) && decide (j < 2 ^ 64)) || decide (i.natAbs.log2 + j.natAbs.log2 < 1000000)
def mulD : D → D → R D
  | .int i, .int j => okIf (mulOk i j) (.int (i * j))
  | _, _ => .stuck
def fdivD : D → D → R D
  | .int i, .int j => okIf ((decide (j ≠ 0) && decide (j.natAbs < 1073741824)) || (decide (0 < j) && decide (j.natAbs.log2 < 9000))) (.int (i.fdiv j))
  | _, _ => .stuck
def modD : D → D → R D
  | .int i, .int j => okIf (decide (j ≠ 0)) (.int (i.fmod j))
  | _, _ => .stuck
def powD : D → D → R D
  | .int i, .int j => okIf (decide (0 ≤ j) && decide (j ≤ 1000000) && decide (i.natAbs < 2 ^ 64)) (.int (i ^ j.toNat))
  | _, _ => .stuck
def eqD (d e : D) : R D := okIf (shp 16 d && shp 16 e) (.bool (PyData.eqv d e))
def neD (d e : D) : R D := okIf (shp 16 d && shp 16 e) (.bool (!PyData.eqv d e))
def ltD : D → D → R D
  | .int i, .int j => .ok (.bool (decide (i < j)))
  | .str x, .str y => .ok (.bool (decide (x.cps.toList < y.cps.toList)))
  | .tuple xs, .tuple ys => okIf (PySem.W.alike (.tuple xs) (.tuple ys) && decide (min (PyData.tuple xs).depth (PyData.tuple ys).depth ≤ 20)) (.bool (PySem.W.dataLt (.tuple xs) (.tuple ys)))
  | _, _ => .stuck
def leD : D → D → R D
  | .int i, .int j => .ok (.bool (decide (i ≤ j)))
  | _, _ => .stuck
def gtD : D → D → R D
  | .int i, .int j => .ok (.bool (decide (j < i)))
  | _, _ => .stuck
def geD : D → D → R D
  | .int i, .int j => .ok (.bool (decide (j ≤ i)))
  | _, _ => .stuck
def isD : D → D → R D
  | .none, .none => .ok (.bool true)
  | _, .none => .ok (.bool false)
  | .bool a, .bool b => .ok (.bool (decide (a = b)))
  | _, _ => .stuck
def isNotD : D → D → R D
  | .none, .none => .ok (.bool false)
  | _, .none => .ok (.bool true)
  | .bool a, .bool b => .ok (.bool (!decide (a = b)))
  | _, _ => .stuck
def inStr (x z : Str) : Bool := match x.cps.toList with
  | [c] => decide (c ∈ z.cps.toList)
  | _ => !(Builtin.Str.occurrences z x 0 z.length 1).isEmpty
def inD : D → D → R D
  | .str x, .str z => .ok (.bool (inStr x z))
  | d, .list ds => okIf (shp 16 d && shp 16 (.list ds)) (.bool (ds.any fun z => PyData.eqv z d))
  | _, _ => .stuck
def notInD : D → D → R D
  | .str x, .str z => .ok (.bool (!inStr x z))
  | d, .list ds => okIf (shp 16 d && shp 16 (.list ds)) (.bool (!ds.any fun z => PyData.eqv z d))
  | _, _ => .stuck
theorem nox_add : NoX addD := by intro x y n; cases x <;> cases y <;> simp [addD]
theorem nox_sub : NoX subD := by intro x y n; cases x <;> cases y <;> simp [subD]
theorem nox_mul : NoX mulD := by intro x y n; cases x <;> cases y <;> simp [mulD]
theorem nox_fdiv : NoX fdivD := by intro x y n; cases x <;> cases y <;> simp [fdivD]
theorem nox_mod : NoX modD := by intro x y n; cases x <;> cases y <;> simp [modD]
theorem nox_pow : NoX powD := by intro x y n; cases x <;> cases y <;> simp [powD]
theorem nox_eq : NoX eqD := by intro x y n; simp [eqD]
theorem nox_ne : NoX neD := by intro x y n; simp [neD]
theorem nox_lt : NoX ltD := by intro x y n; cases x <;> cases y <;> simp [ltD]
theorem nox_le : NoX leD := by intro x y n; cases x <;> cases y <;> simp [leD]
theorem nox_gt : NoX gtD := by intro x y n; cases x <;> cases y <;> simp [gtD]
theorem nox_ge : NoX geD := by intro x y n; cases x <;> cases y <;> simp [geD]
theorem nox_is : NoX isD := by intro x y n; cases x <;> cases y <;> simp [isD]
theorem nox_isNot : NoX isNotD := by intro x y n; cases x <;> cases y <;> simp [isNotD]
theorem nox_in : NoX inD := by intro x y n; cases x <;> cases y <;> simp [inD]
theorem nox_notIn : NoX notInD := by intro x y n; cases x <;> cases y <;> simp [notInD]

section
variable {X : Cx} {W : WX} {B Ω : List Nat} {k : Nat}
/-- list + list, whatever list it is -/
def rCatR : R2 := fun x y H Q => ∃ l b xs zs, x = .ref l ∧ y = .ref b ∧ Rd H l (.lst xs) ∧ Rd H b (.lst zs) ∧ xs.length + zs.length ≤ sizeLine ∧ ∀ p, H p = none → Q (.ref p) (upd H p (.lst (xs ++ zs)))
theorem op_catR : OpR X (binaryOp .Add) rCatR := by
  intro pins s σ H x y v u Q I rx ry h
  obtain ⟨l, b, xs, zs, rfl, rfl, hH, hB, hz, q⟩ := h
  cases rx
  cases ry
  obtain ⟨z, its, n, r, e⟩ := hH.ok I.hok
  obtain ⟨z2, its2, n2, r2, e2⟩ := hB.ok I.hok
  have hl := r.length
  have hl2 := r2.length
  refine PySem.P.add_list e e2 ?_ (by rw [List.size_toArray, List.size_toArray]; omega)
  have ea : its.toArray ++ its2.toArray = (its ++ its2).toArray := by simp
  rw [ea]
  exact ⟨.ref _, _, I.lnew (t' := s.toks) (r.append r2) (by rw [List.length_append]; omega), rfl, q _ I.fresh⟩
def rAdd (K : PySem.W.Frag) : R2 := fun x y H Q => (rI0 fun i j => .int (i + j)) x y H Q ∨ (∃ i j, x = .str i ∧ y = .str j ∧ i.length + j.length ≤ sizeLine ∧ Q (.str (i ++ j)) H) ∨ rCatR x y H Q ∨ rCatA K x y H Q
theorem or_add : OpR X (binaryOp .Add) (rAdd X.K) := OpR.or op_add (OpR.or op_add_str (OpR.or op_catR op_catA))
theorem rb_add : RB X (rAdd X.K) addD := by
  intro O H x y dx dy d Q ht hx hy e q
  cases dx <;> cases dy <;> simp only [addD] at e <;> try cases e
  · obtain rfl := hx.int; obtain rfl := hy.int
    exact .inl ⟨_, _, rfl, rfl, q _ H Same.refl (.int _)⟩
  · obtain ⟨rfl, h1⟩ := hx.str; obtain ⟨rfl, h2⟩ := hy.str
    obtain ⟨c, rfl⟩ := okIf_ok e
    exact .inr (.inl ⟨_, _, rfl, rfl, of_decide_eq_true c, q _ H Same.refl (.str _ (strOk_app h1 h2))⟩)
  · obtain ⟨p, xs, rfl, h1, h2⟩ := hx.lst
    obtain ⟨p', xs', rfl, h3, h4⟩ := hy.lst
    obtain ⟨c, rfl⟩ := okIf_ok e
    have c := of_decide_eq_true c
    rw [← h2.length, ← h4.length] at c
    exact .inr (.inr (.inl ⟨_, _, _, _, rfl, rfl, h1, h3, c, fun r hr => q _ _ (same_upd hr) (new_lst ht hr (h2.append h4))⟩))
  · obtain ⟨p, xs, rfl, h1, h2⟩ := hx.tup
    obtain ⟨p', xs', rfl, h3, h4⟩ := hy.tup
    obtain ⟨c, rfl⟩ := okIf_ok e
    have c := of_decide_eq_true c
    rw [← h2.length, ← h4.length] at c
    refine .inr (.inr (.inr ⟨_, _, _, _, rfl, rfl, sqT_of h1, sqT_of h3, c, fun z => q _ H Same.refl ?_, fun _ z => q _ H Same.refl ?_, fun _ _ r hr => q _ _ (same_upd hr) (new_tup ht hr (h2.append h4))⟩))
    · subst z
      cases h2
      exact .tup h3 h4
    · subst z
      cases h4
      rw [List.append_nil]
      exact .tup h1 h2
theorem rb_sub : RB X (rI0 fun i j => .int (i - j)) subD := by
  intro O H x y dx dy d Q ht hx hy e q
  cases dx <;> cases dy <;> simp only [subD] at e <;> try cases e
  obtain rfl := hx.int; obtain rfl := hy.int
  exact ⟨_, _, rfl, rfl, q _ H Same.refl (.int _)⟩
def rMulA : R2 := fun x y H Q => rI CMul (fun i j => .int (i * j)) x y H Q ∨ rI CMulW (fun i j => .int (i * j)) x y H Q
theorem or_mul : OpR X (binaryOp .Mult) rMulA := OpR.or op_mul op_mulW
theorem rb_mul : RB X rMulA mulD := by
  intro O H x y dx dy d Q ht hx hy e q
  cases dx <;> cases dy <;> simp only [mulD] at e <;> try cases e
  obtain rfl := hx.int; obtain rfl := hy.int
  obtain ⟨c, rfl⟩ := okIf_ok e
  simp only [mulOk, Bool.or_eq_true, Bool.and_eq_true, decide_eq_true_eq] at c
  rcases c with (c | c) | c
  · exact .inl ⟨_, _, rfl, rfl, .inl c, q _ H Same.refl (.int _)⟩
  · exact .inl ⟨_, _, rfl, rfl, .inr c, q _ H Same.refl (.int _)⟩
  · exact .inr ⟨_, _, rfl, rfl, c, q _ H Same.refl (.int _)⟩
def rFdivA : R2 := fun x y H Q => rI CDivN (fun i j => .int (i.fdiv j)) x y H Q ∨ rI CDivW (fun i j => .int (i / j)) x y H Q
theorem or_fdiv : OpR X (binaryOp .FloorDiv) rFdivA := OpR.or op_fdivN op_fdivW
theorem rb_fdiv : RB X rFdivA fdivD := by
  intro O H x y dx dy d Q ht hx hy e q
  cases dx <;> cases dy <;> simp only [fdivD] at e <;> try cases e
  obtain rfl := hx.int; obtain rfl := hy.int
  obtain ⟨c, rfl⟩ := okIf_ok e
  simp only [Bool.or_eq_true, Bool.and_eq_true, decide_eq_true_eq] at c
  rcases c with c | c
  · exact .inl ⟨_, _, rfl, rfl, c, q _ H Same.refl (.int _)⟩
  · refine .inr ⟨_, _, rfl, rfl, c, q _ H Same.refl ?_⟩
    rw [Int.fdiv_eq_ediv_of_nonneg _ (by omega)]
    exact .int _
theorem rb_mod : RB X (rI (fun _ j => j ≠ 0) fun i j => .int (i.fmod j)) modD := by
  intro O H x y dx dy d Q ht hx hy e q
  cases dx <;> cases dy <;> simp only [modD] at e <;> try cases e
  obtain rfl := hx.int; obtain rfl := hy.int
  obtain ⟨c, rfl⟩ := okIf_ok e
  exact ⟨_, _, rfl, rfl, of_decide_eq_true c, q _ H Same.refl (.int _)⟩
theorem rb_pow : RB X (rI CPow fun i j => .int (i ^ j.toNat)) powD := by
  intro O H x y dx dy d Q ht hx hy e q
  cases dx <;> cases dy <;> simp only [powD] at e <;> try cases e
  obtain rfl := hx.int; obtain rfl := hy.int
  obtain ⟨c, rfl⟩ := okIf_ok e
  simp only [Bool.and_eq_true, decide_eq_true_eq] at c
  exact ⟨_, _, rfl, rfl, ⟨c.1.1, c.1.2, c.2⟩, q _ H Same.refl (.int _)⟩
theorem rb_eq : RB X (rEqD X.K) eqD := by
  intro O H x y dx dy d Q ht hx hy e q
  obtain ⟨c, rfl⟩ := okIf_ok e
  simp only [Bool.and_eq_true] at c
  exact ⟨_, _, hx.dp, hy.dp, shaped_of hx c.1, shaped_of hy c.2, q _ H Same.refl (.bl _)⟩
theorem rb_ne : RB X (rNeD X.K) neD := by
  intro O H x y dx dy d Q ht hx hy e q
  obtain ⟨c, rfl⟩ := okIf_ok e
  simp only [Bool.and_eq_true] at c
  exact ⟨_, _, hx.dp, hy.dp, shaped_of hx c.1, shaped_of hy c.2, q _ H Same.refl (.bl _)⟩
def rLtD (K : PySem.W.Frag) : R2 := fun x y H Q => ∃ d e, Dp K H x d ∧ Dp K H y e ∧ PySem.W.alike d e = true ∧ d ≠ .none ∧ min d.depth e.depth ≤ 20 ∧ Q (.bl (PySem.W.dataLt d e)) H
theorem op_ltD (hu : X.A.units + 64 < cLine) : OpR X (compareOp .Lt) (rLtD X.K) := by
  intro pins s σ H x y v u Q I rx ry h
  obtain ⟨d, e, hd, he, al, hn, hz, q⟩ := h
  obtain ⟨as, r1⟩ := Dp.reads I d x v hd rx
  obtain ⟨bs, r2⟩ := Dp.reads I e y u he ry
  exact PySem.W.rcLt_alike d e X.A s v u as bs r1 r2 al hn (by omega) _ _ _ _ ⟨.bl _, H, I, rfl, q⟩
def rLtA (K : PySem.W.Frag) : R2 := fun x y H Q => (rI0 fun i j => .bl (decide (i < j))) x y H Q ∨ ((∃ i j, x = .str i ∧ y = .str j ∧ Q (.bl (decide (i.cps.toList < j.cps.toList))) H) ∨ rLtD K x y H Q)
theorem or_lt (hu : X.A.units + 64 < cLine) : OpR X (compareOp .Lt) (rLtA X.K) := OpR.or op_lt (OpR.or op_lt_str (op_ltD hu))
theorem rb_lt : RB X (rLtA X.K) ltD := by
  intro O H x y dx dy d Q ht hx hy e q
  cases dx <;> cases dy <;> simp only [ltD] at e <;> try cases e
  · obtain rfl := hx.int; obtain rfl := hy.int
    exact .inl ⟨_, _, rfl, rfl, q _ H Same.refl (.bl _)⟩
  · obtain ⟨rfl, h1⟩ := hx.str; obtain ⟨rfl, h2⟩ := hy.str
    exact .inr (.inl ⟨_, _, rfl, rfl, q _ H Same.refl (.bl _)⟩)
  · obtain ⟨c, rfl⟩ := okIf_ok e
    simp only [Bool.and_eq_true, decide_eq_true_eq] at c
    exact .inr (.inr ⟨_, _, hx.dp, hy.dp, c.1, by simp, c.2, q _ H Same.refl (.bl _)⟩)
theorem rb_le : RB X (rI0 fun i j => .bl (decide (i ≤ j))) leD := by
  intro O H x y dx dy d Q ht hx hy e q
  cases dx <;> cases dy <;> simp only [leD] at e <;> try cases e
  obtain rfl := hx.int; obtain rfl := hy.int
  exact ⟨_, _, rfl, rfl, q _ H Same.refl (.bl _)⟩
theorem rb_gt : RB X (rI0 fun i j => .bl (decide (j < i))) gtD := by
  intro O H x y dx dy d Q ht hx hy e q
  cases dx <;> cases dy <;> simp only [gtD] at e <;> try cases e
  obtain rfl := hx.int; obtain rfl := hy.int
  exact ⟨_, _, rfl, rfl, q _ H Same.refl (.bl _)⟩
theorem rb_ge : RB X (rI0 fun i j => .bl (decide (j ≤ i))) geD := by
  intro O H x y dx dy d Q ht hx hy e q
  cases dx <;> cases dy <;> simp only [geD] at e <;> try cases e
  obtain rfl := hx.int; obtain rfl := hy.int
  exact ⟨_, _, rfl, rfl, q _ H Same.refl (.bl _)⟩
def rIsA : R2 := fun x y H Q => (y = .non ∧ Q (.bl (decide (x = .non))) H) ∨ (∃ a b, x = .bl a ∧ y = .bl b ∧ Q (.bl (decide (a = b))) H)
theorem or_is : OpR X (compareOp .Is) rIsA := OpR.or op_isN op_is_bl
theorem rs_non {K : PySem.W.Frag} {O : List Addr} {H : Hp} {v : V} {d : D} (h : Rs K O H H v d) : decide (v = .non) = (match d with | .none => true | _ => false) := by
  cases d with
  | none => obtain rfl := h.non; rfl
  | bool b => obtain rfl := h.bool; rfl
  | int i => obtain rfl := h.int; rfl
  | str x => obtain ⟨rfl, _⟩ := h.str; rfl
  | list ds => obtain ⟨_, _, rfl, _⟩ := h.lst; rfl
  | tuple ds => obtain ⟨_, _, rfl, _⟩ := h.tup; rfl
  | dict ds => exact h.dict.elim
theorem rb_is : RB X rIsA isD := by
  intro O H x y dx dy d Q ht hx hy e q
  have hn := rs_non hx
  cases dy <;> (try (cases dx <;> simp only [isD] at e <;> cases e; done))
  · obtain rfl := hy.non
    refine .inl ⟨rfl, ?_⟩
    rw [hn]
    cases dx <;> simp only [isD] at e <;> (injection e with e; subst e; exact q _ H Same.refl (.bl _))
  · obtain rfl := hy.bool
    cases dx <;> simp only [isD] at e <;> try cases e
    obtain rfl := hx.bool
    exact .inr ⟨_, _, rfl, rfl, q _ H Same.refl (.bl _)⟩
def rNotA : R2 := fun x y H Q => (y = .non ∧ Q (.bl (!decide (x = .non))) H) ∨ (∃ a b, x = .bl a ∧ y = .bl b ∧ Q (.bl (!decide (a = b))) H)
theorem or_isNot : OpR X (compareOp .IsNot) rNotA := OpR.or op_notN op_isnot_bl
theorem rb_isNot : RB X rNotA isNotD := by
  intro O H x y dx dy d Q ht hx hy e q
  have hn := rs_non hx
  cases dy <;> (try (cases dx <;> simp only [isNotD] at e <;> cases e; done))
  · obtain rfl := hy.non
    refine .inl ⟨rfl, ?_⟩
    rw [hn]
    cases dx <;> simp only [isNotD] at e <;> (injection e with e; subst e; exact q _ H Same.refl (.bl _))
  · obtain rfl := hy.bool
    cases dx <;> simp only [isNotD] at e <;> try cases e
    obtain rfl := hx.bool
    exact .inr ⟨_, _, rfl, rfl, q _ H Same.refl (.bl _)⟩
def rInA (K : PySem.W.Frag) (f : Bool → Bool) : R2 := fun x y H Q => (∃ (c : Nat) (z : Str), x = .str ⟨#[c]⟩ ∧ y = .str z ∧ Q (.bl (f (decide (c ∈ z.cps.toList)))) H) ∨
  (∃ i j, x = .str i ∧ y = .str j ∧ Q (.bl (f (!(Builtin.Str.occurrences j i 0 j.length 1).isEmpty))) H) ∨
  (∃ d ds, Dp K H x d ∧ Dp K H y (.list ds) ∧ SeqAt.shaped d = true ∧ SeqAt.shaped (.list ds) = true ∧ Q (.bl (f (ds.any fun z => PyData.eqv z d))) H)
theorem or_in (g : Gd X W k) : OpR X (compareOp .In) (rInA X.K fun b => b) := OpR.or op_in_sign (OpR.or op_in_str (op_inD g.u65))
theorem or_notIn (g : Gd X W k) : OpR X (compareOp .NotIn) (rInA X.K fun b => !b) := OpR.or op_notIn_sign (OpR.or op_notin_str (op_notInD g.u65))
theorem in_str {K : PySem.W.Frag} {f : Bool → Bool} {H : Hp} {Q : VK} {x z : Str} (q : Q (.bl (f (inStr x z))) H) : rInA K f (.str x) (.str z) H Q := by
  unfold inStr at q
  split at q
  · rename_i c e
    refine .inl ⟨c, z, ?_, rfl, q⟩
    obtain ⟨a⟩ := x
    congr 1
    congr 1
    exact Array.ext' (by simpa using e)
  · exact .inr (.inl ⟨_, _, rfl, rfl, q⟩)
theorem rb_in : RB X (rInA X.K fun b => b) inD := by
  intro O H x y dx dy d Q ht hx hy e q
  cases dy <;> (try (cases dx <;> simp only [inD] at e <;> cases e; done))
  · obtain ⟨rfl, h1⟩ := hy.str
    cases dx <;> simp only [inD] at e <;> try cases e
    obtain ⟨rfl, h2⟩ := hx.str
    exact in_str (f := fun b => b) (q _ H Same.refl (.bl _))
  · rename_i ds
    have e : okIf (shp 16 dx && shp 16 (.list ds)) (.bool (ds.any fun z => PyData.eqv z dx)) = .ok d := by cases dx <;> exact e
    obtain ⟨c, rfl⟩ := okIf_ok e
    simp only [Bool.and_eq_true] at c
    exact .inr (.inr ⟨_, _, hx.dp, hy.dp, shaped_of hx c.1, shaped_of hy c.2, q _ H Same.refl (.bl _)⟩)
theorem rb_notIn : RB X (rInA X.K fun b => !b) notInD := by
  intro O H x y dx dy d Q ht hx hy e q
  cases dy <;> (try (cases dx <;> simp only [notInD] at e <;> cases e; done))
  · obtain ⟨rfl, h1⟩ := hy.str
    cases dx <;> simp only [notInD] at e <;> try cases e
    obtain ⟨rfl, h2⟩ := hx.str
    exact in_str (f := fun b => !b) (q _ H Same.refl (.bl _))
  · rename_i ds
    have e : okIf (shp 16 dx && shp 16 (.list ds)) (.bool (!ds.any fun z => PyData.eqv z dx)) = .ok d := by cases dx <;> exact e
    obtain ⟨c, rfl⟩ := okIf_ok e
    simp only [Bool.and_eq_true] at c
    exact .inr (.inr ⟨_, _, hx.dp, hy.dp, shaped_of hx c.1, shaped_of hy c.2, q _ H Same.refl (.bl _)⟩)
end
end MV

set_option Elab.async false
set_option linter.all false
set_option maxRecDepth 100000
set_option maxHeartbeats 4000000
namespace MV
open PySem L2

section
variable {X : Cx} {W : WX} {B Ω : List Nat} {k : Nat} {a b c e : Expr} {ga gb gc : Env → R D} {pos : Pos} {cop cop' : CmpOp} {r r' : R2} {f f' : D → D → R D}
/-! ### tests -/
def asB : D → R Bool
  | .bool b => .ok b
  | _ => .stuck
def xT (g : Env → R D) : Env → R Bool := fun ρ => (g ρ).bind asB
theorem tT_of {mg : Str → Option Value} {σ : St} {H : Hp} {K : PySem.W.Frag} {Q : Bool → Hp → Prop} {g : Env → R D} (h : tT K mg W B Ω (xT g) σ H Q) : tX K mg W B Ω g σ H fun x H' => ∃ c, x = .bl c ∧ Q c H' := by
  obtain ⟨H0, O0, O, ρ, S, h⟩ := h
  refine ⟨H0, O0, O, ρ, S, Good.bind (f := asB) h fun d v H1 e s1 r1 h1 => ?_⟩
  cases d <;> first | exact h1.elim | skip
  cases r1
  exact ⟨_, rfl, h1.use rfl⟩
theorem ptx_val (h : PX X W B Ω e ga) (he : ∀ whole, isTrue e X.env whole = (do let v ← whole; standAt e.pos; holding [v] (truthy v)) := by intro _; rfl) : PTx X W B Ω e (xT ga) :=
  PT.imp (pt_val h he) fun σ H Q q => tT_of q
theorem ptx_cmp (ho : OpR X (compareOp cop) r) (hm : behindInMarks cop b = false) (hn : NoX f) (hr : RB X r f) (ha : PB X W B Ω a ga) (hb : PB X W B Ω b gb) : PTx X W B Ω (.Compare a [cop] [b] pos) (xT (x2 f ga gb)) :=
  PT.imp (pt_cmpR ho ha hb hm) fun σ H Q q => pb_bin hn hr (tT_of q)
def x3 (f f' : D → D → R D) (ga gb gc : Env → R D) : Env → R D := fun ρ => (ga ρ).bind fun x => (gb ρ).bind fun y => (f x y).bind fun z => match z with
  | .bool true => (gc ρ).bind fun w => f' y w
  | .bool false => .ok (.bool false)
  | _ => .stuck
theorem px_tri (hn : NoX f) (hr : RB X r f) (hn' : NoX f') (hr' : RB X r' f') {σ : St} {H : Hp} {Q : VK} (h : tX X.K X.mg W B Ω (x3 f f' ga gb gc) σ H Q) :
    tChain r r' (tB X.K X.mg W B Ω ga) (tB X.K X.mg W B Ω gb) (tB X.K X.mg W B Ω gc) σ H Q := by
  obtain ⟨H0, O0, O, ρ, S, h⟩ := h
  refine ⟨H0, O0, O, ρ, S, Good.bind h fun x v H1 e1 s1 r1 h1 => ⟨H0, O0, O, ρ, S.same s1, Good.bind h1 fun y u H2 e2 s2 r2 h2 => ?_⟩⟩
  have r1' := r1.ge s2 (Ge.of_same s2)
  have S2 := (S.same s1).same s2
  cases ez : f x y with
  | stuck => rw [ez] at h2; exact h2.elim
  | exc n => exact absurd ez (hn x y n)
  | ok z =>
    rw [ez] at h2
    refine hr O H2 v u x y z _ S2.trk r1' r2 ez fun w H3 s3 rz => ?_
    cases z <;> first | exact h2.elim | skip
    rename_i bz
    cases rz
    refine ⟨bz, rfl, ?_⟩
    cases bz with
    | false => exact h2 _ H3 s3 (.bl false)
    | true =>
      simp only [if_true]
      refine ⟨H0, O0, O, ρ, S2.same s3, Good.bind (f := fun w => f' y w) (Good.mono s3 h2) fun w' w2 H4 e4 s4 r4 h4 => ?_⟩
      obtain ⟨z, e⟩ := h4.ok_of (hn' y w')
      rw [e] at h4
      exact hr' O H4 u w2 y w' z Q ((S2.same s3).same s4).trk ((r2.ge s3 (Ge.of_same s3)).ge s4 (Ge.of_same s4)) r4 e h4
theorem px_chain (ho : OpR X (compareOp cop) r) (ho' : OpR X (compareOp cop') r') (hn : NoX f) (hr : RB X r f) (hn' : NoX f') (hr' : RB X r' f') (ha : PB X W B Ω a ga) (hb : PB X W B Ω b gb) (hc : PB X W B Ω c gc)
    (hm : lastMarks [cop, cop'] [b, c] = false := by with_unfolding_all rfl) : PX X W B Ω (.Compare a [cop, cop'] [b, c] pos) (x3 f f' ga gb gc) := PE.imp (pe_chain ho ho' ha hb hc hm) fun σ H Q q => px_tri hn hr hn' hr' q
theorem ptx_chain (ho : OpR X (compareOp cop) r) (ho' : OpR X (compareOp cop') r') (hn : NoX f) (hr : RB X r f) (hn' : NoX f') (hr' : RB X r' f') (ha : PB X W B Ω a ga) (hb : PB X W B Ω b gb) (hc : PB X W B Ω c gc)
    (hm : lastMarks [cop, cop'] [b, c] = false := by with_unfolding_all rfl) : PTx X W B Ω (.Compare a [cop, cop'] [b, c] pos) (xT (x3 f f' ga gb gc)) := PT.imp (pt_chain ho ho' ha hb hc hm) fun σ H Q q => px_tri hn hr hn' hr' (tT_of q)
variable {ta tb : Env → R Bool} {rest : List Expr}
def bAnd (ta tb : Env → R Bool) : Env → R Bool := fun ρ => (ta ρ).bind fun c => if c = true then tb ρ else .ok false
def bOr (ta tb : Env → R Bool) : Env → R Bool := fun ρ => (ta ρ).bind fun c => if c = true then .ok true else tb ρ
def bNot (ta : Env → R Bool) : Env → R Bool := fun ρ => (ta ρ).bind fun c => .ok (!c)
theorem pwx_and1 (ha : PTx X W B Ω a ta) : PWx X W B Ω (.BoolOp .And [a] pos) ta := pw_and1 ha
theorem pwx_or1 (ha : PTx X W B Ω a ta) : PWx X W B Ω (.BoolOp .Or [a] pos) ta := pw_or1 ha
theorem pwx_and (ha : PTx X W B Ω a ta) (hb : PWx X W B Ω (.BoolOp .And (b :: rest) pos) tb) : PWx X W B Ω (.BoolOp .And (a :: b :: rest) pos) (bAnd ta tb) :=
  PW.imp (pw_and ha hb) fun σ H Q ⟨H0, O0, O, ρ, S, h⟩ => ⟨H0, O0, O, ρ, S, Good.bind h fun d v H1 e s1 r1 h1 => by
    have r1 : v = d := r1
    subst r1
    cases v with
    | true => exact ⟨H0, O0, O, ρ, S.same s1, h1⟩
    | false => exact h1.use rfl⟩
theorem pwx_or (ha : PTx X W B Ω a ta) (hb : PWx X W B Ω (.BoolOp .Or (b :: rest) pos) tb) : PWx X W B Ω (.BoolOp .Or (a :: b :: rest) pos) (bOr ta tb) :=
  PW.imp (pw_or ha hb) fun σ H Q ⟨H0, O0, O, ρ, S, h⟩ => ⟨H0, O0, O, ρ, S, Good.bind h fun d v H1 e s1 r1 h1 => by
    have r1 : v = d := r1
    subst r1
    cases v with
    | false => exact ⟨H0, O0, O, ρ, S.same s1, h1⟩
    | true => exact h1.use rfl⟩
theorem ptx_not (ha : PTx X W B Ω a ta) : PTx X W B Ω (.UnaryOp .Not a pos) (bNot ta) :=
  PT.imp (pt_not ha) fun σ H Q ⟨H0, O0, O, ρ, S, h⟩ => ⟨H0, O0, O, ρ, S, Good.bind h fun d v H1 e s1 r1 h1 => by
    have r1 : v = d := r1
    subst r1
    exact h1.use rfl⟩
theorem ptx_w (h : PWx X W B Ω a ta) : PTx X W B Ω a ta := PW.pt h
/-! ### and, or, not, if as values -/
def xAnd (ga gb : Env → R D) : Env → R D := fun ρ => (ga ρ).bind fun x => match x with
  | .bool true => gb ρ
  | .bool false => .ok (.bool false)
  | _ => .stuck
def xOr (ga gb : Env → R D) : Env → R D := fun ρ => (ga ρ).bind fun x => match x with
  | .bool true => .ok (.bool true)
  | .bool false => gb ρ
  | _ => .stuck
def notD : D → R D
  | .bool b => .ok (.bool (!b))
  | _ => .stuck
def xIf (ta : Env → R Bool) (ga gb : Env → R D) : Env → R D := fun ρ => (ta ρ).bind fun c => if c = true then ga ρ else gb ρ
theorem px_one {op} (h : PX X W B Ω a ga) : PX X W B Ω (.BoolOp op [a] pos) ga := pe_one h
theorem px_and (ha : PX X W B Ω a ga) (hb : PX X W B Ω (.BoolOp .And (b :: rest) pos) gb) : PX X W B Ω (.BoolOp .And (a :: b :: rest) pos) (xAnd ga gb) :=
  PE.imp (pe_and ha hb) fun σ H Q ⟨H0, O0, O, ρ, S, h⟩ => ⟨H0, O0, O, ρ, S, Good.bind h fun d v H1 e s1 r1 h1 => by
    cases d <;> first | exact h1.elim | skip
    rename_i z
    cases r1
    refine ⟨z, rfl, ?_⟩
    cases z with
    | true => exact ⟨H0, O0, O, ρ, S.same s1, h1⟩
    | false => exact h1.use (.bl _)⟩
theorem px_or (ha : PX X W B Ω a ga) (hb : PX X W B Ω (.BoolOp .Or (b :: rest) pos) gb) : PX X W B Ω (.BoolOp .Or (a :: b :: rest) pos) (xOr ga gb) :=
  PE.imp (pe_or ha hb) fun σ H Q ⟨H0, O0, O, ρ, S, h⟩ => ⟨H0, O0, O, ρ, S, Good.bind h fun d v H1 e s1 r1 h1 => by
    cases d <;> first | exact h1.elim | skip
    rename_i z
    cases r1
    refine ⟨z, rfl, ?_⟩
    cases z with
    | false => exact ⟨H0, O0, O, ρ, S.same s1, h1⟩
    | true => exact h1.use (.bl _)⟩
theorem px_not (ha : PX X W B Ω a ga) : PX X W B Ω (.UnaryOp .Not a pos) (x1 notD ga) :=
  PE.imp (pe_not ha) fun σ H Q ⟨H0, O0, O, ρ, S, h⟩ => ⟨H0, O0, O, ρ, S, Good.bind h fun d v H1 e s1 r1 h1 => by
    cases d <;> first | exact h1.elim | skip
    rename_i z
    cases r1
    exact ⟨z, rfl, h1.use (.bl _)⟩⟩
def negD : D → R D
  | .int i => .ok (.int (-i))
  | _ => .stuck
theorem px_neg (ha : PX X W B Ω a ga) : PX X W B Ω (.UnaryOp .USub a pos) (x1 negD ga) :=
  PE.imp (pe_un un_neg ha) fun σ H Q ⟨H0, O0, O, ρ, S, h⟩ => ⟨H0, O0, O, ρ, S, Good.bind h fun d v H1 e s1 r1 h1 => by
    cases d <;> first | exact h1.elim | skip
    cases r1
    exact ⟨_, rfl, h1.use (.int _)⟩⟩
theorem px_if (hc : PTx X W B Ω c ta) (ha : PX X W B Ω a ga) (hb : PX X W B Ω b gb) : PX X W B Ω (.IfExp c a b pos) (xIf ta ga gb) :=
  PE.imp (pe_ifExp hc ha hb) fun σ H Q ⟨H0, O0, O, ρ, S, h⟩ => ⟨H0, O0, O, ρ, S, Good.bind h fun d v H1 e s1 r1 h1 => by
    have r1 : v = d := r1
    subst r1
    cases v with
    | true => exact ⟨H0, O0, O, ρ, S.same s1, h1⟩
    | false => exact ⟨H0, O0, O, ρ, S.same s1, h1⟩⟩
theorem po_if (hc : PTx X W B Ω c ta) (ha : PO X W B Ω a ga) (hb : PO X W B Ω b gb) : PO X W B Ω (.IfExp c a b pos) (xIf ta ga gb) :=
  PE.imp (pe_ifExp hc ha hb) fun σ H Q ⟨H0, O0, O, ρ, S, h⟩ => ⟨H0, O0, O, ρ, S, Good.bind h fun d v H1 e s1 r1 h1 => by
    have r1 : v = d := r1
    subst r1
    have weak : ∀ {rr : R D}, Good X.mg W σ (RelO X.K O H) H1 rr Q → Good X.mg W σ (RelO X.K O H1) H1 rr Q := fun {rr} g => by
      cases rr with
      | ok d =>
        rintro v H' s ⟨p, rfl, hp, w⟩
        refine g _ H' s ⟨p, rfl, ?_, w⟩
        cases q : H p with
        | none => rfl
        | some u => rw [s1 p u q] at hp; cases hp
      | exc n => exact g
      | stuck => exact g
    cases v with
    | true => exact ⟨H0, O0, O, ρ, S.same s1, weak h1⟩
    | false => exact ⟨H0, O0, O, ρ, S.same s1, weak h1⟩⟩

/-! ### items, slices -/
def ixD : D → D → R D
  | .list ds, .int i => match atI ds i with
    | some d => .ok d
    | none => .stuck
  | .tuple ds, .int i => match atI ds i with
    | some d => .ok d
    | none => .stuck
  | .str z, .int i => if z.length ≤ sizeLine then (match atI z.cps.toList i with
    | some c => .ok (.str ⟨#[c]⟩)
    | none => .stuck) else .stuck
  | _, _ => .stuck
theorem nox_ix : NoX ixD := by intro x y n; cases x <;> cases y <;> simp only [ixD] <;> (try split) <;> (try split) <;> simp
theorem atI_rp {K : PySem.W.Frag} {O : List Addr} {H : Hp} {xs : List V} {ds : List D} {i : Int} {d : D} (h : RpAll K O H xs ds) (e : atI ds i = some d) : ∃ v, atI xs i = some v ∧ Rp K O H v d := by
  unfold atI at *
  rw [h.length]
  cases q : ixN ds.length i with
  | none => rw [q] at e; cases e
  | some j => rw [q] at e; exact h.get e
def rIxA (K : PySem.W.Frag) : R2 := fun x y H Q => rIxL K x y H Q ∨ rIxT K x y H Q ∨ rIxS x y H Q
theorem or_ix : IxR X (rIxA X.K) := IxR.or ix_list (IxR.or ix_tup ix_str)
theorem atI_mem {α : Type} {xs : List α} {i : Int} {v : α} (h : atI xs i = some v) : v ∈ xs := by
  unfold atI at h
  cases e : ixN xs.length i with
  | none => rw [e] at h; cases h
  | some j => rw [e] at h; exact List.mem_of_getElem? h
theorem strOk_iff {z : Str} : PyData.strOk z = true ↔ ∀ c ∈ z.cps.toList, c < 0x110000 := by
  unfold PyData.strOk
  rw [← Array.all_toList, List.all_eq_true]
  simp
theorem strOk_sub {z y : Str} (h : PyData.strOk z = true) (hs : ∀ c ∈ y.cps.toList, c ∈ z.cps.toList) : PyData.strOk y = true := strOk_iff.mpr fun c hc => strOk_iff.mp h c (hs c hc)
theorem rb_ix : RB X (rIxA X.K) ixD := by
  intro O H x y dx dy d Q ht hx hy e q
  cases dx <;> cases dy <;> simp only [ixD] at e <;> try cases e
  · obtain ⟨rfl, h1⟩ := hx.str; obtain rfl := hy.int
    split at e
    · rename_i hz
      split at e
      · rename_i c hc
        cases e
        exact .inr (.inr ⟨_, _, _, rfl, rfl, hz, hc, q _ H Same.refl (.str _ (strOk_sub h1 fun c' h' => (List.mem_singleton.mp (show c' ∈ [c] from h')) ▸ atI_mem hc))⟩)
      · cases e
    · cases e
  · obtain ⟨p, xs, rfl, h1, h2⟩ := hx.lst; obtain rfl := hy.int
    split at e
    · rename_i d' hd
      cases e
      obtain ⟨v, hv, rv⟩ := atI_rp h2 hd
      exact .inl ⟨_, _, _, _, rfl, rfl, .inl h1, hv, q _ H Same.refl rv⟩
    · cases e
  · obtain ⟨p, xs, rfl, h1, h2⟩ := hx.tup; obtain rfl := hy.int
    split at e
    · rename_i d' hd
      cases e
      obtain ⟨v, hv, rv⟩ := atI_rp h2 hd
      exact .inr (.inl ⟨_, _, _, _, rfl, rfl, sqT_of h1, hv, q _ H Same.refl rv⟩)
    · cases e
theorem px_ix (hs : PlainIx b) (ha : PB X W B Ω a ga) (hb : PB X W B Ω b gb) : PX X W B Ω (.Subscript a b pos) (x2 ixD ga gb) :=
  PE.imp (pe_ix or_ix ha hb hs) fun σ H Q h => pb_bin nox_ix rb_ix h
/-- a part of a slice -/
def xNoP : Env → R (Option Int) := fun _ => .ok none
def asI : D → R (Option Int)
  | .int i => .ok (some i)
  | _ => .stuck
def xP (g : Env → R D) : Env → R (Option Int) := fun ρ => (g ρ).bind asI
def tP (K : PySem.W.Frag) (mg : Str → Option Value) (W : WX) (B Ω : List Nat) (g : Env → R (Option Int)) : TO := fun σ H Q => ∃ H0 O0 O ρ, Stt K H0 O0 B Ω O H σ ρ ∧ Good mg W σ (fun _ (b c : Option Int) => b = c) H (g ρ) Q
def PPx (X : Cx) (W : WX) (B Ω : List Nat) (e : Option Expr) (g : Env → R (Option Int)) : Prop := L2.PO X e (tP X.K X.mg W B Ω g)
theorem PO_imp {X : Cx} {e : Option Expr} {t t' : TO} (h : L2.PO X e t) (w : ∀ σ H Q, t' σ H Q → t σ H Q) : L2.PO X e t' := ⟨fun pins s σ H Q I q => h.run pins s σ H Q I (w σ H Q q)⟩
theorem pp_none : PPx X W B Ω none xNoP := PO_imp po_none fun σ H Q ⟨H0, O0, O, ρ, S, h⟩ => h.use rfl
theorem pp_some (h : PX X W B Ω e ga) : PPx X W B Ω (some e) (xP ga) := PO_imp (po_some h) fun σ H Q ⟨H0, O0, O, ρ, S, h⟩ => ⟨H0, O0, O, ρ, S, Good.bind h fun d v H1 e s1 r1 h1 => by
  cases d <;> first | exact h1.elim | skip
  cases r1
  exact ⟨_, rfl, h1.use rfl⟩⟩
def cutD (xs : List D) (lo hi : Option Int) : List D := (xs.drop (HT.sIx xs.length 0 lo)).take (HT.sIx xs.length xs.length hi - HT.sIx xs.length 0 lo)
def slD : D → Option Int → Option Int → R D
  | .list ds, lo, hi => .ok (.list (cutD ds lo hi))
  | .tuple ds, lo, hi => .ok (.tuple (cutD ds lo hi))
  | .str z, lo, hi => okIf (decide (z.length ≤ sizeLine)) (.str (cutS z lo hi))
  | _, _, _ => .stuck
def xSl (ga : Env → R D) (gl gh : Env → R (Option Int)) : Env → R D := fun ρ => (ga ρ).bind fun x => (gl ρ).bind fun l => (gh ρ).bind fun h => slD x l h
theorem cut_rp {K : PySem.W.Frag} {O : List Addr} {H : Hp} {xs : List V} {ds : List D} (lo hi : Option Int) (h : RpAll K O H xs ds) : RpAll K O H (cutV xs lo hi) (cutD ds lo hi) := by
  unfold cutV cutD
  rw [h.length]
  exact (h.drop _).take _
def rSlAll (K : PySem.W.Frag) : V → Option Int → Option Int → Hp → VK → Prop := fun x lo hi H Q => rSlL K x lo hi H Q ∨ rSlA K x lo hi H Q ∨ rSlS x lo hi H Q
theorem or_sl : SlR X (rSlAll X.K) := SlR.or sl_list (SlR.or sl_tupA sl_str)
theorem cutS_mem {z : Str} {lo hi : Option Int} : ∀ c ∈ (cutS z lo hi).cps.toList, c ∈ z.cps.toList := fun c hc => by
  unfold cutS at hc
  simp only [List.toList_toArray] at hc
  exact List.mem_of_mem_drop (List.mem_of_mem_take hc)
variable {el eh : Option Expr} {gl gh : Env → R (Option Int)} {p2 : Pos}
theorem px_slice (ha : PB X W B Ω a ga) (hl : PPx X W B Ω el gl) (hh : PPx X W B Ω eh gh) : PX X W B Ω (.Subscript a (.Slice el eh none p2) pos) (xSl ga gl gh) :=
  PE.imp (pe_slice or_sl ha hl hh) fun σ H Q ⟨H0, O0, O, ρ, S, h⟩ => ⟨H0, O0, O, ρ, S, Good.bind h fun d v H1 e s1 r1 h1 => ⟨H0, O0, O, ρ, S.same s1, Good.bind h1 fun l l' H2 e2 s2 r2 h2 =>
    ⟨H0, O0, O, ρ, (S.same s1).same s2, Good.bind (f := fun z => slD d l z) h2 fun u u' H3 e3 s3 r3 h3 => by
    have r2 : l' = l := r2
    have r3 : u' = u := r3
    subst r2 r3
    have r1 := (r1.ge s2 (Ge.of_same s2)).ge s3 (Ge.of_same s3)
    have S3 := ((S.same s1).same s2).same s3
    cases d <;> first | exact h3.elim | skip
    · obtain ⟨rfl, h1⟩ := r1.str
      obtain ⟨z, ez⟩ := h3.ok_of fun n hn => by simp [slD] at hn
      rw [ez] at h3
      obtain ⟨hz, rfl⟩ := okIf_ok ez
      exact .inr (.inr ⟨_, rfl, of_decide_eq_true hz, h3.use (.str _ (strOk_sub h1 cutS_mem))⟩)
    · obtain ⟨p, xs, rfl, q1, q2⟩ := r1.lst
      exact .inl ⟨p, xs, rfl, .inl q1, fun p' hp' => h3 _ _ (same_upd hp') (new_lst S3.trk hp' (cut_rp _ _ q2))⟩
    · rename_i zs _
      obtain ⟨p, xs, rfl, q1, q2⟩ := r1.tup
      refine .inr (.inl ⟨p, xs, rfl, sqT_of q1, fun hw => h3.use (Rp.tup q1 ?_), fun _ p' hp' => h3 _ _ (same_upd hp') (new_tup S3.trk hp' (cut_rp _ _ q2))⟩)
      have e0 : cutD zs l' u' = zs := by
        unfold cutD
        rw [← q2.length, hw.1, hw.2, List.drop_zero, Nat.sub_zero, q2.length, List.take_length]
      rw [e0]
      exact q2⟩⟩⟩
/-- a slice of a list: a new one -/
def slL : D → Option Int → Option Int → R D
  | .list ds, lo, hi => .ok (.list (cutD ds lo hi))
  | _, _, _ => .stuck
def xSlL (ga : Env → R D) (gl gh : Env → R (Option Int)) : Env → R D := fun ρ => (ga ρ).bind fun x => (gl ρ).bind fun l => (gh ρ).bind fun h => slL x l h
theorem free_back {H H' : Hp} {p : Addr} (s : Same H H') (hp : H' p = none) : H p = none := by
  cases q : H p with
  | none => rfl
  | some u => rw [s p u q] at hp; cases hp
theorem po_slice (ha : PB X W B Ω a ga) (hl : PPx X W B Ω el gl) (hh : PPx X W B Ω eh gh) : PO X W B Ω (.Subscript a (.Slice el eh none p2) pos) (xSlL ga gl gh) :=
  PE.imp (pe_slice sl_list ha hl hh) fun σ H Q ⟨H0, O0, O, ρ, S, h⟩ => ⟨H0, O0, O, ρ, S, Good.bind h fun d v H1 e s1 r1 h1 => ⟨H0, O0, O, ρ, S.same s1, Good.bind h1 fun l l' H2 e2 s2 r2 h2 =>
    ⟨H0, O0, O, ρ, (S.same s1).same s2, Good.bind (f := fun z => slL d l z) h2 fun u u' H3 e3 s3 r3 h3 => by
    have r2 : l' = l := r2
    have r3 : u' = u := r3
    subst r2 r3
    have r1 := (r1.ge s2 (Ge.of_same s2)).ge s3 (Ge.of_same s3)
    cases d <;> first | exact h3.elim | skip
    obtain ⟨p, xs, rfl, q1, q2⟩ := r1.lst
    exact ⟨p, xs, rfl, .inl q1, fun p' hp' => h3 _ _ (same_upd hp') ⟨p', rfl, free_back (Same.tr (Same.tr s1 s2) s3) hp', new_own hp' (cut_rp _ _ q2)⟩⟩⟩⟩⟩

/-! ### displays, arguments -/
def aNil : Env → R (List D) := fun _ => .ok []
def aCons (g : Env → R D) (gs : Env → R (List D)) : Env → R (List D) := fun ρ => (g ρ).bind fun d => (gs ρ).bind fun ds => .ok (d :: ds)
def RpK (K : PySem.W.Frag) (O : List Addr) (H : Hp) : List Bool → List V → List D → Prop
  | [], [], [] => True
  | b :: bs, v :: vs, d :: ds => (if b = true then Rs K O H H v d else Rp K O H v d) ∧ RpK K O H bs vs ds
  | _, _, _ => False
def tAk (K : PySem.W.Frag) (mg : Str → Option Value) (W : WX) (B Ω : List Nat) (ks : List Bool) (g : Env → R (List D)) : TA := fun σ H Q => ∃ H0 O0 O ρ, Stt K H0 O0 B Ω O H σ ρ ∧ Good mg W σ (fun H' => RpK K O H' ks) H (g ρ) Q
def tAf (K : PySem.W.Frag) (mg : Str → Option Value) (W : WX) (B Ω : List Nat) (g : Env → R (List D)) : TA := fun σ H Q => ∃ H0 O0 O ρ, Stt K H0 O0 B Ω O H σ ρ ∧ Good mg W σ (RpAll K O) H (g ρ) Q
def PAk (X : Cx) (W : WX) (B Ω : List Nat) (ks : List Bool) (es : List Expr) (g : Env → R (List D)) : Prop := PA X es (tAk X.K X.mg W B Ω ks g)
def PAf (X : Cx) (W : WX) (B Ω : List Nat) (es : List Expr) (g : Env → R (List D)) : Prop := PA X es (tAf X.K X.mg W B Ω g)
variable {es : List Expr} {gs : Env → R (List D)} {ks : List Bool}
theorem paf_nil : PAf X W B Ω [] aNil := PA.imp pa_nil fun σ H Q ⟨H0, O0, O, ρ, S, h⟩ => h.use .nil
theorem paf_cons (ha : PX X W B Ω a ga) (hr : PAf X W B Ω es gs) (hs : starEach (a :: es) X.env = (false, eval a X.env) :: starEach es X.env := by rfl) : PAf X W B Ω (a :: es) (aCons ga gs) :=
  PA.imp (pa_cons ha hr hs) fun σ H Q ⟨H0, O0, O, ρ, S, h⟩ => ⟨H0, O0, O, ρ, S, Good.bind h fun d v H1 e s1 r1 h1 => ⟨H0, O0, O, ρ, S.same s1, Good.bind (f := fun ds => .ok (d :: ds)) h1 fun ds vs H2 e2 s2 r2 h2 =>
    h2.use (.cons (r1.same s2) r2)⟩⟩
theorem pak_nil : PAk X W B Ω [] [] aNil := PA.imp pa_nil fun σ H Q ⟨H0, O0, O, ρ, S, h⟩ => h.use True.intro
theorem pak_f (ha : PX X W B Ω a ga) (hr : PAk X W B Ω ks es gs) (hs : starEach (a :: es) X.env = (false, eval a X.env) :: starEach es X.env := by rfl) : PAk X W B Ω (false :: ks) (a :: es) (aCons ga gs) :=
  PA.imp (pa_cons ha hr hs) fun σ H Q ⟨H0, O0, O, ρ, S, h⟩ => ⟨H0, O0, O, ρ, S, Good.bind h fun d v H1 e s1 r1 h1 => ⟨H0, O0, O, ρ, S.same s1, Good.bind (f := fun ds => .ok (d :: ds)) h1 fun ds vs H2 e2 s2 r2 h2 =>
    h2.use ⟨by simpa using r1.same s2, r2⟩⟩⟩
theorem pak_b (ha : PB X W B Ω a ga) (hr : PAk X W B Ω ks es gs) (hs : starEach (a :: es) X.env = (false, eval a X.env) :: starEach es X.env := by rfl) : PAk X W B Ω (true :: ks) (a :: es) (aCons ga gs) :=
  PA.imp (pa_cons ha hr hs) fun σ H Q ⟨H0, O0, O, ρ, S, h⟩ => ⟨H0, O0, O, ρ, S, Good.bind h fun d v H1 e s1 r1 h1 => ⟨H0, O0, O, ρ, S.same s1, Good.bind (f := fun ds => .ok (d :: ds)) h1 fun ds vs H2 e2 s2 r2 h2 =>
    h2.use ⟨by simpa using r1.ge s2 (Ge.of_same s2), r2⟩⟩⟩
def mkTup (ds : List D) : R D := if ds.length ≤ sizeLine then .ok (.tuple ds) else .stuck
def mkLst (ds : List D) : R D := if ds.length ≤ sizeLine then .ok (.list ds) else .stuck
def xTup (gs : Env → R (List D)) : Env → R D := fun ρ => (gs ρ).bind mkTup
def xLst (gs : Env → R (List D)) : Env → R D := fun ρ => (gs ρ).bind mkLst
theorem px_tup {x1} (h : PAf X W B Ω es gs) : PX X W B Ω (.Tuple es x1 pos) (xTup gs) :=
  PE.imp (pe_tup h) fun σ H Q ⟨H0, O0, O, ρ, S, h⟩ => ⟨H0, O0, O, ρ, S, Good.bind (f := mkTup) h fun ds vs H1 e s1 r1 h1 => by
    unfold mkTup at h1
    split at h1
    · rename_i hz
      exact ⟨by rw [r1.length]; exact hz, fun p hp => h1 _ _ (same_upd hp) (new_tup (S.same s1).trk hp r1)⟩
    · exact h1.elim⟩
theorem po_lst (h : PAf X W B Ω es gs) : PO X W B Ω (.List es pos) (xLst gs) :=
  PE.imp (pe_lst h) fun σ H Q ⟨H0, O0, O, ρ, S, h⟩ => ⟨H0, O0, O, ρ, S, Good.bind (f := mkLst) h fun ds vs H1 e s1 r1 h1 => by
    unfold mkLst at h1
    split at h1
    · rename_i hz
      exact ⟨by rw [r1.length]; exact hz, fun p hp => h1 _ _ (same_upd hp) ⟨p, rfl, free_back s1 hp, new_own hp r1⟩⟩
    · exact h1.elim⟩
end
end MV

set_option Elab.async false
set_option linter.all false
set_option maxRecDepth 100000
set_option maxHeartbeats 4000000
namespace MV
open PySem L2

section
variable {X : Cx} {W : WX} {B Ω : List Nat} {k : Nat} {a b c e : Expr} {es : List Expr} {ga gb gc : Env → R D} {gs : Env → R (List D)} {ks : List Bool} {pos p : Pos} {nm : Str}
/-! ### built-ins -/
def xCall (f : List D → R D) (gs : Env → R (List D)) : Env → R D := fun ρ => (gs ρ).bind f
def NoXl (f : List D → R D) : Prop := ∀ ds n, f ds ≠ .exc n
def RCB (X : Cx) (r : List V → Hp → VK → Prop) (f : List D → R D) (ks : List Bool) : Prop := ∀ (O : List Addr) (H : Hp) (vs : List V) (ds : List D) (d : D) (Q : VK), (∀ a ∈ O, H a ≠ none) → RpK X.K O H ks vs ds → f ds = .ok d → (∀ v H', Same H H' → Rp X.K O H' v d → Q v H') → r vs H Q
def RCO (X : Cx) (r : List V → Hp → VK → Prop) (f : List D → R D) (ks : List Bool) : Prop := ∀ (O : List Addr) (H : Hp) (vs : List V) (ds : List D) (d : D) (Q : VK), (∀ a ∈ O, H a ≠ none) → RpK X.K O H ks vs ds → f ds = .ok d → (∀ v H', Same H H' → RelO X.K O H H' v d → Q v H') → r vs H Q
theorem rel_back {K : PySem.W.Frag} {O : List Addr} {H H1 H' : Hp} {v : V} {d : D} (s : Same H H1) (h : RelO K O H1 H' v d) : RelO K O H H' v d := let ⟨p, e, hp, w⟩ := h; ⟨p, e, free_back s hp, w⟩
theorem call_x {r : List V → Hp → VK → Prop} {f : List D → R D} (hn : NoXl f) (hr : RCB X r f ks) {σ : St} {H : Hp} {Q : VK} (h : tX X.K X.mg W B Ω (xCall f gs) σ H Q) : tCB r (tAk X.K X.mg W B Ω ks gs) σ H Q := by
  obtain ⟨H0, O0, O, ρ, S, h⟩ := h
  refine ⟨H0, O0, O, ρ, S, Good.bind (f := f) h fun ds vs H1 e s1 r1 h1 => ?_⟩
  cases q : f ds with
  | ok d => rw [q] at h1; exact hr O H1 vs ds d Q (S.same s1).trk r1 q h1
  | exc n => exact absurd q (hn ds n)
  | stuck => rw [q] at h1; exact h1.elim
theorem call_o {r : List V → Hp → VK → Prop} {f : List D → R D} (hn : NoXl f) (hr : RCO X r f ks) {σ : St} {H : Hp} {Q : VK} (h : tO X.K X.mg W B Ω (xCall f gs) σ H Q) : tCB r (tAk X.K X.mg W B Ω ks gs) σ H Q := by
  obtain ⟨H0, O0, O, ρ, S, h⟩ := h
  refine ⟨H0, O0, O, ρ, S, Good.bind (f := f) h fun ds vs H1 e s1 r1 h1 => ?_⟩
  cases q : f ds with
  | ok d => rw [q] at h1; exact hr O H1 vs ds d Q (S.same s1).trk r1 q fun v H' s rr => h1 v H' s (rel_back s1 rr)
  | exc n => exact absurd q (hn ds n)
  | stuck => rw [q] at h1; exact h1.elim
theorem px_bi {id : String} {r : List V → Hp → VK → Prop} {f : List D → R D} (hc : CallR X (.builtin id) r) (hn : NoXl f) (hr : RCB X r f ks) (hg : Gl X nm) (hm : X.mg nm = none) (hv : bootBuiltins nm = some (.builtin id)) (ha : PAk X W B Ω ks (e :: es) gs) (hnn : nm ≠ "__name__" := by decide) (hdb : (nm == ("__debug__" : Str)) = false := by decide)
    (he : starEach (e :: es) X.env = (false, eval e X.env) :: starEach es X.env := by rfl) (hpl : (backTo pos (starEach es X.env)).any (·.1) = false := by rfl) : PX X W B Ω (.Call (.Name nm p) (e :: es) [] pos) (xCall f gs) :=
  PE.imp (pe_callB hc hg hm hv ha hnn hdb he hpl) fun σ H Q h => call_x hn hr h
theorem po_bi {id : String} {r : List V → Hp → VK → Prop} {f : List D → R D} (hc : CallR X (.builtin id) r) (hn : NoXl f) (hr : RCO X r f ks) (hg : Gl X nm) (hm : X.mg nm = none) (hv : bootBuiltins nm = some (.builtin id)) (ha : PAk X W B Ω ks (e :: es) gs) (hnn : nm ≠ "__name__" := by decide) (hdb : (nm == ("__debug__" : Str)) = false := by decide)
    (he : starEach (e :: es) X.env = (false, eval e X.env) :: starEach es X.env := by rfl) (hpl : (backTo pos (starEach es X.env)).any (·.1) = false := by rfl) : PO X W B Ω (.Call (.Name nm p) (e :: es) [] pos) (xCall f gs) :=
  PE.imp (pe_callB hc hg hm hv ha hnn hdb he hpl) fun σ H Q h => call_o hn hr h
theorem px_ty {T : String} {r : List V → Hp → VK → Prop} {f : List D → R D} (hc : CallR X (.type T) r) (hn : NoXl f) (hr : RCB X r f ks) (hg : Gl X nm) (hm : X.mg nm = none) (hv : bootBuiltins nm = some (.type T)) (ha : PAk X W B Ω ks (e :: es) gs) (hnn : nm ≠ "__name__" := by decide) (hdb : (nm == ("__debug__" : Str)) = false := by decide)
    (he : starEach (e :: es) X.env = (false, eval e X.env) :: starEach es X.env := by rfl) (hpl : (backTo pos (starEach es X.env)).any (·.1) = false := by rfl) : PX X W B Ω (.Call (.Name nm p) (e :: es) [] pos) (xCall f gs) :=
  PE.imp (pe_callTy hc hg hm hv ha hnn hdb he hpl) fun σ H Q h => call_x hn hr h
theorem po_ty {T : String} {r : List V → Hp → VK → Prop} {f : List D → R D} (hc : CallR X (.type T) r) (hn : NoXl f) (hr : RCO X r f ks) (hg : Gl X nm) (hm : X.mg nm = none) (hv : bootBuiltins nm = some (.type T)) (ha : PAk X W B Ω ks (e :: es) gs) (hnn : nm ≠ "__name__" := by decide) (hdb : (nm == ("__debug__" : Str)) = false := by decide)
    (he : starEach (e :: es) X.env = (false, eval e X.env) :: starEach es X.env := by rfl) (hpl : (backTo pos (starEach es X.env)).any (·.1) = false := by rfl) : PO X W B Ω (.Call (.Name nm p) (e :: es) [] pos) (xCall f gs) :=
  PE.imp (pe_callTy hc hg hm hv ha hnn hdb he hpl) fun σ H Q h => call_o hn hr h

/-- one borrowed argument -/
theorem rpk1 {K : PySem.W.Frag} {O : List Addr} {H : Hp} {vs : List V} {ds : List D} (h : RpK K O H [true] vs ds) : ∃ v d, vs = [v] ∧ ds = [d] ∧ Rs K O H H v d := by
  match vs, ds, h with
  | [v], [d], h => exact ⟨v, d, rfl, rfl, by simpa using h.1⟩
  | [], [], h => exact h.elim
  | v :: w :: vs, [d], h => exact h.2.elim
  | [v], d :: e :: ds, h => exact h.2.elim
  | v :: w :: vs, d :: e :: ds, h => exact h.2.elim
  | [], d :: ds, h => exact h.elim
  | v :: vs, [], h => exact h.elim
theorem rpk2 {K : PySem.W.Frag} {O : List Addr} {H : Hp} {vs : List V} {ds : List D} (h : RpK K O H [true, true] vs ds) : ∃ v w d e, vs = [v, w] ∧ ds = [d, e] ∧ Rs K O H H v d ∧ Rs K O H H w e := by
  match vs, ds, h with
  | [v, w], [d, e], h => exact ⟨v, w, d, e, rfl, rfl, by simpa using h.1, by simpa using h.2.1⟩
  | [], _, h => exact h.elim
  | [v], [], h => exact h.elim
  | [v], [d], h => exact h.2.elim
  | [v], d :: e :: ds, h => exact h.2.elim
  | v :: w :: vs, [], h => exact h.elim
  | v :: w :: vs, [d], h => exact h.2.elim
  | [v, w], d :: e :: f :: ds, h => exact h.2.2.elim
  | v :: w :: u :: vs, [d, e], h => exact h.2.2.elim
  | v :: w :: u :: vs, d :: e :: f :: ds, h => exact h.2.2.elim
def lenF : List D → R D
  | [.list ds] => .ok (.int ds.length)
  | [.tuple ds] => .ok (.int ds.length)
  | [.str z] => okIf (decide (z.length ≤ sizeLine)) (.int z.length)
  | _ => .stuck
def intsOf : List D → Option (List Int)
  | [] => some []
  | .int i :: ds => (intsOf ds).map (i :: ·)
  | _ :: _ => none
def boolsOf : List D → Option (List Bool)
  | [] => some []
  | .bool i :: ds => (boolsOf ds).map (i :: ·)
  | _ :: _ => none
@[simp] theorem intsOf_map (ns : List Int) : intsOf (ns.map .int) = some ns := by
  induction ns with
  | nil => rfl
  | cons n ns ih => simp [intsOf, ih]
@[simp] theorem boolsOf_map (ns : List Bool) : boolsOf (ns.map .bool) = some ns := by
  induction ns with
  | nil => rfl
  | cons n ns ih => simp [boolsOf, ih]
theorem intsOf_eq : ∀ {ds : List D} {ns : List Int}, intsOf ds = some ns → ds = ns.map .int
  | [], ns, h => by simp [intsOf] at h; subst h; rfl
  | d :: ds, ns, h => by
    cases d <;> simp only [intsOf] at h <;> try cases h
    obtain ⟨ms, e, rfl⟩ := Option.map_eq_some_iff.mp h
    rw [intsOf_eq e]; rfl
theorem boolsOf_eq : ∀ {ds : List D} {ns : List Bool}, boolsOf ds = some ns → ds = ns.map .bool
  | [], ns, h => by simp [boolsOf] at h; subst h; rfl
  | d :: ds, ns, h => by
    cases d <;> simp only [boolsOf] at h <;> try cases h
    obtain ⟨ms, e, rfl⟩ := Option.map_eq_some_iff.mp h
    rw [boolsOf_eq e]; rfl
theorem rp_ints {K : PySem.W.Frag} {O : List Addr} {H : Hp} : ∀ {ns : List Int} {vs : List V}, RpAll K O H vs (ns.map .int) → vs = ns.map .int
  | [], vs, h => by cases h; rfl
  | n :: ns, vs, h => by
    cases h with
    | cons h1 h2 => cases h1; rw [rp_ints h2]; rfl
theorem rp_bools {K : PySem.W.Frag} {O : List Addr} {H : Hp} : ∀ {ns : List Bool} {vs : List V}, RpAll K O H vs (ns.map .bool) → vs = ns.map .bl
  | [], vs, h => by cases h; rfl
  | n :: ns, vs, h => by
    cases h with
    | cons h1 h2 => cases h1; rw [rp_bools h2]; rfl
theorem ints_rp {K : PySem.W.Frag} {O : List Addr} {H : Hp} : ∀ (ns : List Int), RpAll K O H (ns.map .int) (ns.map .int)
  | [] => .nil
  | n :: ns => .cons (.int n) (ints_rp ns)
def sumF : List D → R D
  | [.list ds] => match intsOf ds with
    | some ns => .ok (.int ns.sum)
    | none => .stuck
  | _ => .stuck
def minF : List D → R D
  | [.list ds] => match intsOf ds with
    | some (n :: ns) => .ok (.int (ns.foldl min n))
    | _ => .stuck
  | [.int i, .int j] => .ok (.int (min i j))
  | _ => .stuck
def maxF : List D → R D
  | [.list ds] => match intsOf ds with
    | some (n :: ns) => .ok (.int (ns.foldl max n))
    | _ => .stuck
  | [.int i, .int j] => .ok (.int (max i j))
  | _ => .stuck
def absF : List D → R D
  | [.int i] => .ok (.int (if i < 0 then -i else i))
  | _ => .stuck
def allF : List D → R D
  | [.list ds] => match boolsOf ds with
    | some bs => .ok (.bool (bs.all id))
    | none => .stuck
  | _ => .stuck
def anyF : List D → R D
  | [.list ds] => match boolsOf ds with
    | some bs => .ok (.bool (bs.any id))
    | none => .stuck
  | _ => .stuck
def tupF : List D → R D
  | [.list ds] => .ok (.tuple ds)
  | [.tuple ds] => .ok (.tuple ds)
  | _ => .stuck
def lstF : List D → R D
  | [.list ds] => .ok (.list ds)
  | [.tuple ds] => .ok (.list ds)
  | _ => .stuck
def intF : List D → R D
  | [.int i] => .ok (.int i)
  | [.bool b] => .ok (.int (if b = true then 1 else 0))
  | _ => .stuck
def strF : List D → R D
  | [.int i] => okIf (decide (i.natAbs.log2 < 1920)) (.str (toString i))
  | [.str z] => .ok (.str z)
  | _ => .stuck
def srtI (ns : List Int) : List Int := ns.mergeSort (fun a b => decide (a ≤ b))
def sortedF : List D → R D
  | [.list ds] => match intsOf ds with
    | some ns => .ok (.list ((srtI ns).map .int))
    | none => .stuck
  | _ => .stuck
theorem nox_len : NoXl lenF := by intro ds n; unfold lenF; split <;> simp
theorem nox_sum : NoXl sumF := by intro ds n; unfold sumF; split <;> (try split) <;> simp
theorem nox_min : NoXl minF := by intro ds n; unfold minF; split <;> (try split) <;> simp
theorem nox_max : NoXl maxF := by intro ds n; unfold maxF; split <;> (try split) <;> simp
theorem nox_abs : NoXl absF := by intro ds n; unfold absF; split <;> simp
theorem nox_all : NoXl allF := by intro ds n; unfold allF; split <;> (try split) <;> simp
theorem nox_any : NoXl anyF := by intro ds n; unfold anyF; split <;> (try split) <;> simp
theorem nox_tup : NoXl tupF := by intro ds n; unfold tupF; split <;> simp
theorem nox_lst : NoXl lstF := by intro ds n; unfold lstF; split <;> simp
theorem nox_int : NoXl intF := by intro ds n; unfold intF; split <;> simp
theorem nox_str : NoXl strF := by intro ds n; unfold strF; split <;> simp
theorem nox_sorted : NoXl sortedF := by intro ds n; unfold sortedF; split <;> (try split) <;> simp
def rLenA (K : PySem.W.Frag) : List V → Hp → VK → Prop := fun xs H Q => (∃ p ys, xs = [.ref p] ∧ (SqL K H p ys ∨ SqT K H p ys) ∧ Q (.int ys.length) H) ∨ (∃ z, xs = [.str z] ∧ z.length ≤ sizeLine ∧ Q (.int z.length) H)
theorem cr_lenA : CallR X (.builtin "len") (rLenA X.K) := CallR.or call_len_seq call_len_str
theorem rc_len : RCB X (rLenA X.K) lenF [true] := by
  intro O H vs ds d Q ht h e q
  obtain ⟨v, d', rfl, rfl, r⟩ := rpk1 h
  cases d' <;> simp only [lenF] at e <;> try cases e
  · obtain ⟨rfl, h1⟩ := r.str
    obtain ⟨c, rfl⟩ := okIf_ok e
    exact .inr ⟨_, rfl, of_decide_eq_true c, q _ H Same.refl (.int _)⟩
  · obtain ⟨p, xs, rfl, h1, h2⟩ := r.lst
    exact .inl ⟨p, xs, rfl, .inl (.inl h1), by rw [h2.length]; exact q _ H Same.refl (.int _)⟩
  · obtain ⟨p, xs, rfl, h1, h2⟩ := r.tup
    exact .inl ⟨p, xs, rfl, .inr (.inl h1.2), by rw [h2.length]; exact q _ H Same.refl (.int _)⟩
theorem rc_sum : RCB X (rSum X.K) sumF [true] := by
  intro O H vs ds d Q ht h e q
  obtain ⟨v, d', rfl, rfl, r⟩ := rpk1 h
  cases d' <;> simp only [sumF] at e <;> try cases e
  split at e
  · rename_i ns hns
    cases e
    obtain rfl := intsOf_eq hns
    obtain ⟨p, xs, rfl, h1, h2⟩ := r.lst
    obtain rfl := rp_ints h2
    exact ⟨p, ns, rfl, .inl h1, q _ H Same.refl (.int _)⟩
  · cases e
theorem foldl_min_mem : ∀ (ns : List Int) (n : Int), ns.foldl min n ∈ n :: ns
  | [], n => by simp
  | m :: ns, n => by
    rw [List.foldl_cons]
    have h := foldl_min_mem ns (min n m)
    rcases List.mem_cons.mp h with h | h
    · rw [h]
      rcases Int.min_def n m ▸ (by split <;> simp : (if n ≤ m then n else m) = n ∨ (if n ≤ m then n else m) = m) with z | z <;> simp [z]
    · exact List.mem_cons_of_mem _ (List.mem_cons_of_mem _ h)
theorem foldl_min_le : ∀ (ns : List Int) (n : Int), ns.foldl min n ≤ n ∧ ∀ m ∈ ns, ns.foldl min n ≤ m
  | [], n => by simp
  | m :: ns, n => by
    rw [List.foldl_cons]
    obtain ⟨h1, h2⟩ := foldl_min_le ns (min n m)
    refine ⟨by omega, fun k hk => ?_⟩
    rcases List.mem_cons.mp hk with rfl | hk
    · omega
    · exact h2 k hk
theorem foldl_max_mem : ∀ (ns : List Int) (n : Int), ns.foldl max n ∈ n :: ns
  | [], n => by simp
  | m :: ns, n => by
    rw [List.foldl_cons]
    have h := foldl_max_mem ns (max n m)
    rcases List.mem_cons.mp h with h | h
    · rw [h]
      rcases Int.max_def n m ▸ (by split <;> simp : (if n ≤ m then m else n) = n ∨ (if n ≤ m then m else n) = m) with z | z <;> simp [z]
    · exact List.mem_cons_of_mem _ (List.mem_cons_of_mem _ h)
theorem foldl_max_ge : ∀ (ns : List Int) (n : Int), n ≤ ns.foldl max n ∧ ∀ m ∈ ns, m ≤ ns.foldl max n
  | [], n => by simp
  | m :: ns, n => by
    rw [List.foldl_cons]
    obtain ⟨h1, h2⟩ := foldl_max_ge ns (max n m)
    refine ⟨by omega, fun k hk => ?_⟩
    rcases List.mem_cons.mp hk with rfl | hk
    · omega
    · exact h2 k hk
def rMinA (K : PySem.W.Frag) : List V → Hp → VK → Prop := fun xs H Q => rMin K xs H Q ∨ (∃ i j, xs = [.int i, .int j] ∧ Q (.int (if j < i then j else i)) H)
def rMaxA (K : PySem.W.Frag) : List V → Hp → VK → Prop := fun xs H Q => rMax K xs H Q ∨ (∃ i j, xs = [.int i, .int j] ∧ Q (.int (if j > i then j else i)) H)
theorem rc_min1 : RCB X (rMinA X.K) minF [true] := by
  intro O H vs ds d Q ht h e q
  obtain ⟨v, d', rfl, rfl, r⟩ := rpk1 h
  cases d' <;> simp only [minF] at e <;> try cases e
  split at e
  · rename_i n ns hns
    cases e
    obtain rfl := intsOf_eq hns
    obtain ⟨p, xs, rfl, h1, h2⟩ := r.lst
    obtain rfl := rp_ints h2
    refine .inl ⟨p, n :: ns, rfl, .inl h1, by simp, fun m hm hl => ?_⟩
    have e1 := hl _ (foldl_min_mem ns n)
    obtain ⟨e2, e3⟩ := foldl_min_le ns n
    have e4 : ns.foldl min n ≤ m := by
      rcases List.mem_cons.mp hm with rfl | hm
      · exact e2
      · exact e3 m hm
    have e5 : ns.foldl min n = m := by omega
    rw [e5] at q
    exact q _ H Same.refl (.int _)
  · cases e
theorem rc_min2 : RCB X (rMinA X.K) minF [true, true] := by
  intro O H vs ds d Q ht h e q
  obtain ⟨v, w, d', e', rfl, rfl, r1, r2⟩ := rpk2 h
  cases d' <;> cases e' <;> simp only [minF] at e <;> try cases e
  obtain rfl := r1.int; obtain rfl := r2.int
  refine .inr ⟨_, _, rfl, ?_⟩
  rename_i i j
  have e5 : (if j < i then j else i) = min i j := by split <;> omega
  rw [e5]
  exact q _ H Same.refl (.int _)
theorem rc_max1 : RCB X (rMaxA X.K) maxF [true] := by
  intro O H vs ds d Q ht h e q
  obtain ⟨v, d', rfl, rfl, r⟩ := rpk1 h
  cases d' <;> simp only [maxF] at e <;> try cases e
  split at e
  · rename_i n ns hns
    cases e
    obtain rfl := intsOf_eq hns
    obtain ⟨p, xs, rfl, h1, h2⟩ := r.lst
    obtain rfl := rp_ints h2
    refine .inl ⟨p, n :: ns, rfl, .inl h1, by simp, fun m hm hl => ?_⟩
    have e1 := hl _ (foldl_max_mem ns n)
    obtain ⟨e2, e3⟩ := foldl_max_ge ns n
    have e4 : m ≤ ns.foldl max n := by
      rcases List.mem_cons.mp hm with rfl | hm
      · exact e2
      · exact e3 m hm
    have e5 : ns.foldl max n = m := by omega
    rw [e5] at q
    exact q _ H Same.refl (.int _)
  · cases e
theorem rc_max2 : RCB X (rMaxA X.K) maxF [true, true] := by
  intro O H vs ds d Q ht h e q
  obtain ⟨v, w, d', e', rfl, rfl, r1, r2⟩ := rpk2 h
  cases d' <;> cases e' <;> simp only [maxF] at e <;> try cases e
  obtain rfl := r1.int; obtain rfl := r2.int
  refine .inr ⟨_, _, rfl, ?_⟩
  rename_i i j
  have e5 : (if j > i then j else i) = max i j := by split <;> omega
  rw [e5]
  exact q _ H Same.refl (.int _)
theorem cr_minA (g : Gd X W k) : CallR X (.builtin "min") (rMinA X.K) := CallR.or (cr_min g.hc) (call_min2 g.hc)
theorem cr_maxA (g : Gd X W k) : CallR X (.builtin "max") (rMaxA X.K) := CallR.or (cr_max g.hc) (call_max2 g.hc)
theorem rc_abs : RCB X (fun xs H Q => ∃ i, xs = [.int i] ∧ Q (.int (if i < 0 then -i else i)) H) absF [true] := by
  intro O H vs ds d Q ht h e q
  obtain ⟨v, d', rfl, rfl, r⟩ := rpk1 h
  cases d' <;> simp only [absF] at e <;> try cases e
  obtain rfl := r.int
  exact ⟨_, rfl, q _ H Same.refl (.int _)⟩
theorem rc_all : RCB X (rAll X.K) allF [true] := by
  intro O H vs ds d Q ht h e q
  obtain ⟨v, d', rfl, rfl, r⟩ := rpk1 h
  cases d' <;> simp only [allF] at e <;> try cases e
  split at e
  · rename_i ns hns
    cases e
    obtain rfl := boolsOf_eq hns
    obtain ⟨p, xs, rfl, h1, h2⟩ := r.lst
    obtain rfl := rp_bools h2
    exact ⟨p, ns, rfl, .inl h1, q _ H Same.refl (.bl _)⟩
  · cases e
theorem rc_any : RCB X (rAny X.K) anyF [true] := by
  intro O H vs ds d Q ht h e q
  obtain ⟨v, d', rfl, rfl, r⟩ := rpk1 h
  cases d' <;> simp only [anyF] at e <;> try cases e
  split at e
  · rename_i ns hns
    cases e
    obtain rfl := boolsOf_eq hns
    obtain ⟨p, xs, rfl, h1, h2⟩ := r.lst
    obtain rfl := rp_bools h2
    exact ⟨p, ns, rfl, .inl h1, q _ H Same.refl (.bl _)⟩
  · cases e
theorem rc_tup : RCB X (fun xs H Q => ∃ p ys, xs = [.ref p] ∧ ((SqL X.K H p ys ∧ ∀ l, H l = none → Q (.ref l) (upd H l (.tup ys))) ∨ (SqT X.K H p ys ∧ Q (.ref p) H))) tupF [true] := by
  intro O H vs ds d Q ht h e q
  obtain ⟨v, d', rfl, rfl, r⟩ := rpk1 h
  cases d' <;> simp only [tupF] at e <;> try cases e
  · obtain ⟨p, xs, rfl, h1, h2⟩ := r.lst
    exact ⟨p, xs, rfl, .inl ⟨.inl h1, fun l hl => q _ _ (same_upd hl) (new_tup ht hl h2)⟩⟩
  · obtain ⟨p, xs, rfl, h1, h2⟩ := r.tup
    exact ⟨p, xs, rfl, .inr ⟨.inl h1.2, q _ H Same.refl (.tup h1 h2)⟩⟩
theorem rc_lst : RCO X (fun xs H Q => ∃ p ys, xs = [.ref p] ∧ (SqL X.K H p ys ∨ SqT X.K H p ys) ∧ ∀ l, H l = none → Q (.ref l) (upd H l (.lst ys))) lstF [true] := by
  intro O H vs ds d Q ht h e q
  obtain ⟨v, d', rfl, rfl, r⟩ := rpk1 h
  cases d' <;> simp only [lstF] at e <;> try cases e
  · obtain ⟨p, xs, rfl, h1, h2⟩ := r.lst
    exact ⟨p, xs, rfl, .inl (.inl h1), fun l hl => q _ _ (same_upd hl) ⟨l, rfl, hl, new_own hl h2⟩⟩
  · obtain ⟨p, xs, rfl, h1, h2⟩ := r.tup
    exact ⟨p, xs, rfl, .inr (.inl h1.2), fun l hl => q _ _ (same_upd hl) ⟨l, rfl, hl, new_own hl h2⟩⟩
theorem rc_int : RCB X (fun xs H Q => (∃ i, xs = [.int i] ∧ Q (.int i) H) ∨ ∃ k : Bool, xs = [.bl k] ∧ Q (.int (if k = true then 1 else 0)) H) intF [true] := by
  intro O H vs ds d Q ht h e q
  obtain ⟨v, d', rfl, rfl, r⟩ := rpk1 h
  cases d' <;> simp only [intF] at e <;> try cases e
  · obtain rfl := r.bool
    exact .inr ⟨_, rfl, q _ H Same.refl (.int _)⟩
  · obtain rfl := r.int
    exact .inl ⟨_, rfl, q _ H Same.refl (.int _)⟩
theorem strOk_ofString (s : String) : PyData.strOk (Str.ofString s) = true := by
  rw [Str.ofString_eq_toList]
  refine strOk_iff.mpr fun c hc => ?_
  simp only [List.toList_toArray, List.mem_map] at hc
  obtain ⟨z, _, rfl⟩ := hc
  have h := z.valid
  show z.val.toNat < _
  rcases h with h | ⟨_, h⟩
  · have : z.val.toNat < 0xd800 := h
    omega
  · exact h
def rStrA : List V → Hp → VK → Prop := fun xs H Q => (∃ i : Int, xs = [.int i] ∧ i.natAbs.log2 < 1920 ∧ Q (.str (toString i)) H) ∨ ∃ a, xs = [.str a] ∧ Q (.str a) H
theorem cr_strA : CallR X (.type "str") rStrA := CallR.or call_str_int SkE.call_str_str
theorem rc_str : RCB X rStrA strF [true] := by
  intro O H vs ds d Q ht h e q
  obtain ⟨v, d', rfl, rfl, r⟩ := rpk1 h
  cases d' <;> simp only [strF] at e <;> try cases e
  · obtain rfl := r.int
    obtain ⟨c, rfl⟩ := okIf_ok e
    exact .inl ⟨_, rfl, of_decide_eq_true c, q _ H Same.refl (.str _ (strOk_ofString _))⟩
  · obtain ⟨rfl, h1⟩ := r.str
    exact .inr ⟨_, rfl, q _ H Same.refl (.str _ h1)⟩
theorem srtI_eq {ns ns' : List Int} (hp : ns'.Perm ns) (hs : ns'.Pairwise (· ≤ ·)) : ns' = srtI ns := by
  have h1 : (srtI ns).Perm ns := List.mergeSort_perm _ _
  have h2 : (srtI ns).Pairwise (fun a b => decide (a ≤ b) = true) := List.pairwise_mergeSort (fun a b c h k => by simp at *; omega) (fun a b => by simp; omega) ns
  refine (hp.trans h1.symm).eq_of_pairwise (fun a b _ _ h k => ?_) hs (h2.imp fun h => by simpa using h)
  exact Int.le_antisymm h k
theorem rc_sorted : RCO X (rSortedI X.K) sortedF [true] := by
  intro O H vs ds d Q ht h e q
  obtain ⟨v, d', rfl, rfl, r⟩ := rpk1 h
  cases d' <;> simp only [sortedF] at e <;> try cases e
  split at e
  · rename_i ns hns
    cases e
    obtain rfl := intsOf_eq hns
    obtain ⟨p, xs, rfl, h1, h2⟩ := r.lst
    obtain rfl := rp_ints h2
    refine ⟨p, ns, rfl, .inl h1, fun ns' l hp hs hl => ?_⟩
    rw [srtI_eq hp hs]
    exact q _ _ (same_upd hl) ⟨l, rfl, hl, new_own hl (ints_rp _)⟩
  · cases e

/-! ### isinstance -/
def isiD (T : String) : D → Bool
  | .none => T == "NoneType"
  | .bool _ => T == "bool" || T == "int"
  | .int _ => T == "int"
  | .str _ => T == "str"
  | .list _ => T == "list"
  | .tuple _ => T == "tuple"
  | .dict _ => T == "dict"
def okTy (T : String) : Bool := ["int", "bool", "str", "tuple", "list"].contains T
def tyN : D → String
  | .none => "NoneType"
  | .bool _ => "bool"
  | .int _ => "int"
  | .str _ => "str"
  | .list _ => "list"
  | .tuple _ => "tuple"
  | .dict _ => "dict"
theorem isi_kit {K : PySem.W.Frag} {T : String} (hT : okTy T = true) (d : D) (hd : match d with | .dict _ => False | _ => True) : PySem.W.kitOne K (.type (tyN d)) (.type T) = some (isiD T d) := by
  have : T = "int" ∨ T = "bool" ∨ T = "str" ∨ T = "tuple" ∨ T = "list" := by simpa [okTy] using hT
  rcases this with rfl | rfl | rfl | rfl | rfl <;> cases d <;> first | exact hd.elim | (simp only [tyN, isiD]; exact kit_ty (by decide +kernel))
theorem rs_ty {K : PySem.W.Frag} {O : List Addr} {H : Hp} {v : V} {d : D} (h : Rs K O H H v d) : TyX K H v (.type (tyN d)) := by
  cases d with
  | none => obtain rfl := h.non; exact .base .non
  | bool b => obtain rfl := h.bool; exact .base (.bl b)
  | int i => obtain rfl := h.int; exact .base (.int i)
  | str x => obtain ⟨rfl, _⟩ := h.str; exact .base (.str x)
  | list ds =>
    obtain ⟨p, xs, rfl, h1, _⟩ := h.lst
    rcases h1 with h1 | ⟨o, h1⟩
    · exact .base (.lst h1)
    · exact .base (.frz h1)
  | tuple ds =>
    obtain ⟨p, xs, rfl, h1, _⟩ := h.tup
    rcases h1.2 with h1 | ⟨o, h1⟩
    · exact .base (.tup h1)
    · exact .fTuple h1
  | dict ds => exact h.dict.elim
def isiF (T : String) : D → R D := fun d => .ok (.bool (isiD T d))
def tIsi (K : PySem.W.Frag) (mg : Str → Option Value) (W : WX) (B Ω : List Nat) (T : String) (g : Env → R D) : TA := tCons (tB K mg W B Ω g) (tCons (tC (.ty T)) tNil)
theorem px_isi {T : String} {pT : Pos} {nT : Str} (hg : Gl X "isinstance") (hm : X.mg "isinstance" = none) (hgT : Gl X nT) (hmT : X.mg nT = none) (hvT : bootBuiltins nT = some (.type T)) (hT : okTy T = true) (ha : PB X W B Ω a ga)
    (hn : nT ≠ "__name__" := by decide) (hd : (nT == ("__debug__" : Str)) = false := by decide) (hs : starEach [a, .Name nT pT] X.env = (false, eval a X.env) :: starEach [.Name nT pT] X.env := by rfl) (hs2 : starEach [.Name nT pT] X.env = (false, eval (.Name nT pT) X.env) :: starEach [] X.env := by rfl)
    (hpl : (backTo pos (starEach [.Name nT pT] X.env)).any (·.1) = false := by rfl) :
    PX X W B Ω (.Call (.Name "isinstance" p) [a, .Name nT pT] [] pos) (x1 (isiF T) ga) := by
  refine PE.imp (pe_callB call_isi hg hm (by decide +kernel) (pa_cons ha (pa_cons (pe_bltn (v := .ty T) hgT hmT hvT rfl hn hd) pa_nil hs2) hs) (by decide) (by decide) hs hpl) fun σ H Q ⟨H0, O0, O, ρ, S, h⟩ => ⟨H0, O0, O, ρ, S, Good.bind (f := isiF T) h fun d v H1 e s1 r1 h1 => ?_⟩
  exact ⟨v, .ty T, _, .type T, _, rfl, .ty T, rs_ty r1, isi_kit (K := X.K) hT d (by cases d <;> first | trivial | exact r1.dict.elim), h1.use (.bl _)⟩

/-! ### the text's own defs -/
/-- what a def hands back -/
def RetG (K : PySem.W.Frag) (fr : Bool) (O : List Addr) (H : Hp) (d : D) (Q : VK) : Prop :=
  if fr = true then ∀ v H', Same H H' → RelO K O H H' v d → Q v H' else ∀ v H', Same H H' → Rp K O H' v d → Q v H'
def spM (K : PySem.W.Frag) (mg : Str → Option Value) (ks : List Bool) (fr : Bool) (g : List D → R D) : Sp := fun vs H Q E => ∃ O ds, (∀ a ∈ O, H a ≠ none) ∧ RpK K O H ks vs ds ∧
  match g ds with
  | .ok d => RetG K fr O H d Q
  | .exc n => ∀ C H', mg n = some (Value.ref C) → Same H H' → E (.ref C) none H'
  | .stuck => False
variable {f : Addr} {fd : FuncData} {ps : List Str} {g : List D → R D} {j : Nat}
theorem px_call (G : Gd X W k) (F : FnOk X.prog X.w X.K X.mg X.base (L2.CX X.prog X.w) j f fd ps (spM X.K X.mg ks false g)) (hj : j ≤ k) (hg : Gl X nm) (hm : X.mg nm = some (.ref f)) (hk : PySem.W.keepIn X.K (.ref f) = true) (hb : Binds X.K fd ps [])
    (ha : PAk X W B Ω ks (e :: es) gs) (hdb : (nm == ("__debug__" : Str)) = false := by decide) (he : starEach (e :: es) X.env = (false, eval e X.env) :: starEach es X.env := by rfl) (hpl : (backTo pos (starEach es X.env)).any (·.1) = false := by rfl) :
    PX X W B Ω (.Call (.Name nm p) (e :: es) [] pos) (xCall g gs) :=
  PE.imp (pe_callS F (G.hr.mono hj) hg hm hk hb (fun σ => passAt G.tk σ) ha hdb he hpl) fun σ H Q ⟨H0, O0, O, ρ, S, h⟩ => ⟨H0, O0, O, ρ, S, Good.bind (f := g) h fun ds vs H1 e s1 r1 h1 => by
    refine ⟨O, ds, (S.same s1).trk, r1, ?_⟩
    cases q : g ds with
    | ok d => rw [q] at h1; exact h1
    | exc n => rw [q] at h1; exact h1
    | stuck => rw [q] at h1; exact h1⟩
theorem po_call (G : Gd X W k) (F : FnOk X.prog X.w X.K X.mg X.base (L2.CX X.prog X.w) j f fd ps (spM X.K X.mg ks true g)) (hj : j ≤ k) (hg : Gl X nm) (hm : X.mg nm = some (.ref f)) (hk : PySem.W.keepIn X.K (.ref f) = true) (hb : Binds X.K fd ps [])
    (ha : PAk X W B Ω ks (e :: es) gs) (hdb : (nm == ("__debug__" : Str)) = false := by decide) (he : starEach (e :: es) X.env = (false, eval e X.env) :: starEach es X.env := by rfl) (hpl : (backTo pos (starEach es X.env)).any (·.1) = false := by rfl) :
    PO X W B Ω (.Call (.Name nm p) (e :: es) [] pos) (xCall g gs) :=
  PE.imp (pe_callS F (G.hr.mono hj) hg hm hk hb (fun σ => passAt G.tk σ) ha hdb he hpl) fun σ H Q ⟨H0, O0, O, ρ, S, h⟩ => ⟨H0, O0, O, ρ, S, Good.bind (f := g) h fun ds vs H1 e s1 r1 h1 => by
    refine ⟨O, ds, (S.same s1).trk, r1, ?_⟩
    cases q : g ds with
    | ok d => rw [q] at h1; exact fun v H' s r => h1 v H' s (rel_back s1 r)
    | exc n => rw [q] at h1; exact h1
    | stuck => rw [q] at h1; exact h1⟩
end
end MV

set_option Elab.async false
set_option linter.all false
set_option maxRecDepth 100000
set_option maxHeartbeats 4000000
namespace MV
open PySem L2

/-! ### the state once more -/
section
variable {K : PySem.W.Frag} {H0 : Hp} {O0 : List Addr} {B Ω : List Nat} {O O' : List Addr} {H H' : Hp} {σ : St} {ρ : Env} {v : V} {d : D} {vs : List V} {ds : List D}
theorem step_rd (s : Step O H O' H') : ∀ a u, a ∉ O → Rd H a u → a ∉ O' ∧ Rd H' a u := fun a u ho r => by
  refine ⟨fun z => ?_, (ge_rd s.ge a u ho r).2⟩
  rcases s.new a z with q | q
  · exact ho q
  · exact MV.Rd.ne r q rfl
theorem Rp.step (s : Step O H O' H') (h : Rp K O H v d) : Rp K O' H' v d := Rp.map (step_rd s) d v h
theorem RpAll.step (s : Step O H O' H') (h : RpAll K O H vs ds) : RpAll K O' H' vs ds := RpAll.map (step_rd s) ds vs h
theorem Stt.set' {i : Nat} (S : Stt K H0 O0 B Ω O H σ ρ) (r : Rp K O H v d) (hB : B.contains i = false) (hΩ : Ω.contains i = false) : Stt K H0 O0 B Ω O H (σ.set i (some v)) (ρ.set i (some d)) := by
  have h := S.set (i := i) r (by simpa using hB)
  have e : Ω.filter (· ≠ i) = Ω := List.filter_eq_self.mpr fun a ha => by
    have : i ∉ Ω := by simpa using hΩ
    simp only [ne_eq, decide_not, Bool.not_eq_eq_eq_not, Bool.not_true, decide_eq_false_iff_not]
    rintro rfl; exact this ha
  rw [e] at h; exact h
/-- a slot is forgotten -/
theorem Stt.unset {i : Nat} {o : Option V} (S : Stt K H0 O0 B Ω O H σ ρ) : Stt K H0 O0 B Ω O H (σ.set i o) (ρ.set i none) where
  keep := S.keep
  trk0 := S.trk0
  sub := S.sub
  trk := S.trk
  fz := fun j e h1 h2 h3 => by
    by_cases hj : i = j
    · subst hj
      by_cases hl : i < ρ.length
      · rw [List.getElem?_set_self hl] at h1; cases h1
      · rw [List.getElem?_eq_none (by simpa using hl)] at h1; cases h1
    · rw [List.getElem?_set_ne hj] at h1
      rw [List.getElem?_set_ne hj]
      exact S.fz j e h1 h2 h3
  bor := fun j e h1 h2 h3 => by
    by_cases hj : i = j
    · subst hj
      by_cases hl : i < ρ.length
      · rw [List.getElem?_set_self hl] at h1; cases h1
      · rw [List.getElem?_eq_none (by simpa using hl)] at h1; cases h1
    · rw [List.getElem?_set_ne hj] at h1
      rw [List.getElem?_set_ne hj]
      exact S.bor j e h1 h2 h3
  ow := fun j e h1 h2 => by
    by_cases hj : i = j
    · subst hj
      by_cases hl : i < ρ.length
      · rw [List.getElem?_set_self hl] at h1; cases h1
      · rw [List.getElem?_eq_none (by simpa using hl)] at h1; cases h1
    · rw [List.getElem?_set_ne hj] at h1
      rw [List.getElem?_set_ne hj]
      exact S.ow j e h1 h2
  dist := fun j hj k hk hne p d e h1 h2 h3 => by
    by_cases a1 : i = j
    · subst a1
      by_cases hl : i < ρ.length
      · rw [List.getElem?_set_self hl] at h1; cases h1
      · rw [List.getElem?_eq_none (by simpa using hl)] at h1; cases h1
    · by_cases a2 : i = k
      · subst a2
        by_cases hl : i < ρ.length
        · rw [List.getElem?_set_self hl] at h2; cases h2
        · rw [List.getElem?_eq_none (by simpa using hl)] at h2; cases h2
      · rw [List.getElem?_set_ne a1] at h1 h3
        rw [List.getElem?_set_ne a2] at h2
        rw [List.getElem?_set_ne a2]
        exact S.dist j hj k hk hne p d e h1 h2 h3
  len := by simp [S.len]
def wipeE (ρ : Env) : List Nat → Env
  | [] => ρ
  | v :: vs => (wipeE ρ vs).set v none
theorem Stt.wipe (S : Stt K H0 O0 B Ω O H σ ρ) : ∀ ws : List Nat, Stt K H0 O0 B Ω O H (L2.wipe σ ws) (wipeE ρ ws)
  | [] => S
  | w :: ws => (Stt.wipe S ws).unset
/-- the address p is watched, too -/
theorem Stt.watch {p : Addr} (S : Stt K H0 O0 B Ω O H σ ρ) (s : Same H H') (hp : H p = none) (hp' : H' p ≠ none) : Stt K H0 O0 B Ω (p :: O) H' σ ρ where
  keep := Same.tr S.keep s
  trk0 := S.trk0
  sub := fun a ha => List.mem_cons_of_mem _ (S.sub a ha)
  trk := fun a ha => by
    rcases List.mem_cons.mp ha with rfl | ha
    · exact hp'
    · exact (S.same s).trk a ha
  fz := fun i d e h1 h2 => let ⟨v, e', r⟩ := S.fz i d e h1 h2; ⟨v, e', (r.fresh hp).same s⟩
  bor := fun i d e h1 h2 => let ⟨v, e', r⟩ := S.bor i d e h1 h2; ⟨v, e', (r.fresh hp).ge Same.refl (Ge.of_same s)⟩
  ow := fun i d e h1 => by
    obtain ⟨q, e', h2, h3, h4⟩ := S.ow i d e h1
    obtain ⟨o, eo⟩ := h4.some
    exact ⟨q, e', List.mem_cons_of_mem _ h2, h3, (h4.fresh hp).ge (Ge.of_same s) ((s q o eo).trans eo.symm)⟩
  dist := S.dist
  len := S.len
/-- what stands at a watched address changes -/
theorem Stt.chg {p : Addr} {o : HO} (S : Stt K H0 O0 B Ω O H σ ρ) (hp : p ∈ O) (h0 : H0 p = none) (hno : ∀ j ∈ Ω, ∀ d, ρ[j]? = some (some d) → σ[j]? ≠ some (some (.ref p))) : Stt K H0 O0 B Ω O (upd H p o) σ ρ := by
  have ge : Ge O H (upd H p o) := fun a u ha e => by rw [upd_ne (fun z => ha (by rw [z]; exact hp))]; exact e
  refine ⟨fun a u e => ?_, S.trk0, S.sub, fun a ha => ?_, fun i d e h1 h2 => ?_, fun i d e h1 h2 => ?_, fun i d e h1 => ?_, S.dist, S.len⟩
  · have : a ≠ p := fun z => by rw [z, h0] at e; cases e
    rw [upd_ne this]; exact S.keep a u e
  · by_cases h : a = p
    · subst h; rw [upd_same]; simp
    · rw [upd_ne h]; exact S.trk a ha
  · obtain ⟨v, e', r⟩ := S.fz i d e h1 h2
    exact ⟨v, e', r.ge ge⟩
  · obtain ⟨v, e', r⟩ := S.bor i d e h1 h2
    exact ⟨v, e', r.ge Same.refl ge⟩
  · obtain ⟨q, e', h2, h3, h4⟩ := S.ow i d e h1
    have hq : q ≠ p := fun z => hno i h1 d e (z ▸ e')
    exact ⟨q, e', h2, h3, h4.ge ge (upd_ne hq)⟩
/-- the own thing of a slot changes -/
theorem Stt.put {i : Nat} {p : Addr} {o : HO} {e d : D} (S : Stt K H0 O0 B Ω O H σ ρ) (hi : i ∈ Ω) (hB : i ∉ B) (he : ρ[i]? = some (some e)) (hp : σ[i]? = some (some (.ref p))) (w : OwnAt K O (upd H p o) p d) :
    Stt K H0 O0 B Ω O (upd H p o) σ (ρ.set i (some d)) ∧ Step O H O (upd H p o) := by
  obtain ⟨q, e1, e2, e3, e4⟩ := S.ow i e he hi
  rw [hp] at e1; cases e1
  have ge : Ge O H (upd H p o) := fun a u ha e => by rw [upd_ne (fun z => ha (by rw [z]; exact e2))]; exact e
  refine ⟨⟨fun a u e => ?_, S.trk0, S.sub, fun a ha => ?_, fun j d h1 h2 h3 => ?_, fun j d h1 h2 h3 => ?_, fun j d h1 h2 => ?_, fun j hj k hk hne q d' e' h1 h2 h3 => ?_, by simp [S.len]⟩, ge, fun a h => .inl h⟩
  · have : a ≠ p := fun z => by rw [z, e3] at e; cases e
    rw [upd_ne this]; exact S.keep a u e
  · by_cases h : a = p
    · subst h; rw [upd_same]; simp
    · rw [upd_ne h]; exact S.trk a ha
  · have hj : i ≠ j := fun z => h2 (z ▸ hi)
    rw [List.getElem?_set_ne hj] at h1
    obtain ⟨v, e', r⟩ := S.fz j d h1 h2 h3
    exact ⟨v, e', r.ge ge⟩
  · have hj : i ≠ j := fun z => h2 (z ▸ hi)
    rw [List.getElem?_set_ne hj] at h1
    obtain ⟨v, e', r⟩ := S.bor j d h1 h2 h3
    exact ⟨v, e', r.ge Same.refl ge⟩
  · by_cases hj : i = j
    · subst hj
      obtain ⟨hl, _⟩ := List.getElem?_eq_some_iff.mp he
      rw [List.getElem?_set_self hl] at h1
      cases h1
      exact ⟨p, hp, e2, e3, w⟩
    · rw [List.getElem?_set_ne hj] at h1
      obtain ⟨q, e', r2, r3, r4⟩ := S.ow j d h1 h2
      have hq : q ≠ p := fun z => S.dist i hi j h2 hj p _ _ he h1 hp (z ▸ e')
      exact ⟨q, e', r2, r3, r4.ge ge (upd_ne hq)⟩
  · have back : ∀ {m : Nat} {x : D}, (ρ.set i (some d))[m]? = some (some x) → ∃ y, ρ[m]? = some (some y) := fun {m x} h => by
      by_cases hm : i = m
      · subst hm; exact ⟨e, he⟩
      · rw [List.getElem?_set_ne hm] at h; exact ⟨x, h⟩
    obtain ⟨y1, k1⟩ := back h1
    obtain ⟨y2, k2⟩ := back h2
    exact S.dist j hj k hk hne q _ _ k1 k2 h3
end

/-! ### targets -/
section
variable {X : Cx} {W : WX} {B Ω : List Nat} {k : Nat}
def TgU (K : PySem.W.Frag) (B Ω : List Nat) (g : TG) (is : List Nat) (bnd : D → Env → Option Env) : Prop :=
  ∀ {H0 : Hp} {O0 O : List Addr} {H : Hp} {σ : St} {ρ ρ' : Env} {v : V} {d : D} {Q : St → Hp → Prop}, Stt K H0 O0 B Ω O H σ ρ → Rp K O H v d → bnd d ρ = some ρ' →
    (∀ σ', Stt K H0 O0 B Ω O H σ' ρ' → (∀ ws : List Nat, (∀ i ∈ is, i ∈ ws) → wipe σ' ws = wipe σ ws) → (∀ j ∈ Ω, σ'[j]? = σ[j]?) → Q σ' H) → g v σ H Q
def bName (i : Nat) : D → Env → Option Env := fun d ρ => some (ρ.set i (some d))
theorem wipe_get : ∀ (ws : List Nat) (σ : St) (j : Nat), (wipe σ ws)[j]? = if j ∈ ws then (if j < σ.length then some none else none) else σ[j]?
  | [], σ, j => by simp [wipe]
  | w :: ws, σ, j => by
    unfold wipe
    by_cases hj : w = j
    · subst hj
      rw [if_pos List.mem_cons_self]
      by_cases hl : w < σ.length
      · rw [List.getElem?_set_self (by rw [wipe_length]; exact hl), if_pos hl]
      · rw [List.getElem?_eq_none (by rw [List.length_set, wipe_length]; omega), if_neg hl]
    · rw [List.getElem?_set_ne hj, wipe_get ws σ j]
      by_cases hm : j ∈ ws
      · rw [if_pos hm, if_pos (List.mem_cons_of_mem _ hm)]
      · rw [if_neg hm, if_neg (fun z => (List.mem_cons.mp z).elim (fun q => hj q.symm) hm)]
theorem wipe_set {σ : St} {ws : List Nat} {i : Nat} {o : Option V} (h : i ∈ ws) : wipe (σ.set i o) ws = wipe σ ws := by
  apply List.ext_getElem?
  intro j
  rw [wipe_get, wipe_get, List.length_set]
  by_cases hj : j ∈ ws
  · rw [if_pos hj, if_pos hj]
  · rw [if_neg hj, if_neg hj, List.getElem?_set_ne (fun z => hj (by rw [← z]; exact h))]
theorem tgu_name {K : PySem.W.Frag} {i : Nat} (hB : B.contains i = false) (hΩ : Ω.contains i = false) : TgU K B Ω (gName i) [i] (bName i) :=
  fun {H0 O0 O H σ ρ ρ' v d Q} S r e q => by
    cases e
    refine q _ (S.set' r hB hΩ) (fun ws h => wipe_set (h i List.mem_cons_self)) fun j hj => List.getElem?_set_ne fun z => ?_
    have : i ∉ Ω := by simpa using hΩ
    exact this (z ▸ hj)
def setAll : Env → List Nat → List D → Option Env
  | ρ, [], [] => some ρ
  | ρ, i :: is, d :: ds => setAll (ρ.set i (some d)) is ds
  | _, _, _ => none
def bTup (is : List Nat) : D → Env → Option Env := fun d ρ => match d with
  | .tuple ds => setAll ρ is ds
  | _ => none
def TgsU (K : PySem.W.Frag) (B Ω : List Nat) (g : TGs) (is : List Nat) : Prop :=
  ∀ {H0 : Hp} {O0 O : List Addr} {H : Hp} {σ : St} {ρ ρ' : Env} {vs : List V} {ds : List D} {Q : St → Hp → Prop}, Stt K H0 O0 B Ω O H σ ρ → RpAll K O H vs ds → setAll ρ is ds = some ρ' →
    (∀ σ', Stt K H0 O0 B Ω O H σ' ρ' → (∀ ws : List Nat, (∀ i ∈ is, i ∈ ws) → wipe σ' ws = wipe σ ws) → (∀ j ∈ Ω, σ'[j]? = σ[j]?) → Q σ' H) → g vs σ H Q
theorem tgsu_nil {K : PySem.W.Frag} : TgsU K B Ω gNil [] := fun {H0 O0 O H σ ρ ρ' vs ds Q} S r e q => by
    cases ds with
    | nil => cases r; cases e; exact ⟨rfl, q _ S (fun _ _ => rfl) fun _ _ => rfl⟩
    | cons d ds => cases e
theorem tgsu_cons {K : PySem.W.Frag} {i : Nat} {g : TGs} {is : List Nat} (hB : B.contains i = false) (hΩ : Ω.contains i = false) (h : TgsU K B Ω g is) : TgsU K B Ω (gCons (gName i) g) (i :: is) :=
  fun {H0 O0 O H σ ρ ρ' vs ds Q} S r e q => by
    cases ds with
    | nil => cases e
    | cons d ds =>
      cases r with
      | cons r1 r2 =>
        refine ⟨_, _, rfl, h (S.set' r1 hB hΩ) r2 e fun σ' S' hw ho => q σ' S' (fun ws hh => ?_) fun j hj => ?_⟩
        · rw [hw ws fun z hz => hh z (List.mem_cons_of_mem _ hz), wipe_set (hh i List.mem_cons_self)]
        · rw [ho j hj]
          refine List.getElem?_set_ne fun z => ?_
          have : i ∉ Ω := by simpa using hΩ
          exact this (z ▸ hj)
theorem setAll_len : ∀ {is : List Nat} {ds : List D} {ρ ρ' : Env}, setAll ρ is ds = some ρ' → ds.length = is.length
  | [], [], _, _, _ => rfl
  | i :: is, d :: ds, ρ, ρ', h => by simp [setAll_len (show setAll (ρ.set i (some d)) is ds = some ρ' from h)]
  | [], d :: ds, _, _, h => by cases h
  | i :: is, [], _, _, h => by cases h
theorem tgu_tup {K : PySem.W.Frag} {g : TGs} {is : List Nat} {n : Nat} (h : TgsU K B Ω g is) (hn : is.length = n) : TgU K B Ω (gTup K n g) is (bTup is) :=
  fun {H0 O0 O H σ ρ ρ' v d Q} S r e q => by
    cases d <;> simp only [bTup] at e <;> try cases e
    cases r with
    | tup h1 h2 => exact ⟨_, _, rfl, .inl h1.2, by rw [h2.length, setAll_len e, hn], h S h2 e q⟩
end

/-! ### what is walked -/
section
variable {X : Cx} {W : WX} {B Ω : List Nat} {k : Nat} {tg a b e : Expr} {ga gb : Env → R D} {pos p : Pos}
/-- the iterator J hands out ds; H1: where it was made -/
def ItOk (K : PySem.W.Frag) (H0 : Hp) (O : List Addr) (H1 : Hp) (J : It) (ds : List D) : Prop := ∀ O' H', Same H0 H' → Step O H1 O' H' → (∀ a ∈ O', H' a ≠ none) →
  (∀ (i : Nat) d, ds[i]? = some d → J.go i H' ∧ ∀ x H2, J.yld i H' x H2 → Same H' H2 ∧ Rp K O' H2 x d) ∧ J.stop ds.length H'
def ItOkc (K : PySem.W.Frag) (O : List Addr) (H1 : Hp) (J : It) (ds : List D) : Prop := ∀ O' H', Same H1 H' → Step O H1 O' H' → (∀ a ∈ O', H' a ≠ none) →
  (∀ (i : Nat) d, ds[i]? = some d → J.go i H' ∧ ∀ x H2, J.yld i H' x H2 → Same H' H2 ∧ Rp K O' H2 x d) ∧ J.stop ds.length H'
def GoodI (mg : Str → Option Value) (W : WX) (σ : St) (P : Hp → It → List D → Prop) (H : Hp) (r : R (List D)) (Q : It → Hp → Prop) : Prop := Good (β := It) mg W σ (fun H1 J ds => P H1 J ds) H r Q
def tIs (K : PySem.W.Frag) (mg : Str → Option Value) (W : WX) (B Ω : List Nat) (g : Env → R (List D)) : TI := fun σ H Q => ∃ H0 O0 O ρ, Stt K H0 O0 B Ω O H σ ρ ∧ Good mg W σ (fun H1 J ds => ItOk K H0 O H1 J ds) H (g ρ) Q
def tIc (K : PySem.W.Frag) (mg : Str → Option Value) (W : WX) (B Ω : List Nat) (g : Env → R (List D)) : TI := fun σ H Q => ∃ H0 O0 O ρ, Stt K H0 O0 B Ω O H σ ρ ∧ Good mg W σ (fun H1 J ds => ItOkc K O H1 J ds) H (g ρ) Q
def PIs (X : Cx) (W : WX) (B Ω : List Nat) (tg e : Expr) (g : Env → R (List D)) : Prop := PI X tg e (tIs X.K X.mg W B Ω g)
def PIc (X : Cx) (W : WX) (B Ω : List Nat) (tg e : Expr) (g : Env → R (List D)) : Prop := PI X tg e (tIc X.K X.mg W B Ω g)
theorem PI.imp {tg e : Expr} {t t' : TI} (h : PI X tg e t) (w : ∀ σ H Q, t' σ H Q → t σ H Q) : PI X tg e t' := ⟨fun pins s σ H R I q => h.run pins s σ H R I (w σ H R q)⟩
theorem PI.or {tg e : Expr} {t t' : TI} (h : PI X tg e t) (h' : PI X tg e t') : PI X tg e (fun σ H R => t σ H R ∨ t' σ H R) := ⟨fun pins s σ H R I q => q.elim (h.run pins s σ H R I) (h'.run pins s σ H R I)⟩
def seqD : D → R (List D)
  | .list ds => .ok ds
  | .tuple ds => .ok ds
  | .str z => .ok (z.cps.toList.map fun c => .str ⟨#[c]⟩)
  | _ => .stuck
def xSeq (g : Env → R D) : Env → R (List D) := fun ρ => (g ρ).bind seqD
theorem list_it {K : PySem.W.Frag} {O O' : List Addr} {H1 H' : Hp} {a : Addr} {xs : List V} {ds : List D} (h : RpAll K O H1 xs ds) (s : Step O H1 O' H') (r : Rd H' a (.lst xs)) (inj : ∀ ys, SqL K H' a ys → ys = xs) :
    (∀ (i : Nat) d, ds[i]? = some d → (Itl K a).go i H' ∧ ∀ x H2, (Itl K a).yld i H' x H2 → Same H' H2 ∧ Rp K O' H2 x d) ∧ (Itl K a).stop ds.length H' := by
  refine ⟨fun i d e => ?_, xs, .inl r, by rw [h.length]; exact Nat.le_refl _⟩
  obtain ⟨v, ev, rv⟩ := h.get e
  refine ⟨⟨xs, v, .inl r, ev⟩, fun x H2 ⟨e2, y⟩ => ?_⟩
  subst e2
  have := y xs (.inl r)
  rw [ev] at this; cases this
  exact ⟨Same.refl, rv.step s⟩
theorem tup_it {K : PySem.W.Frag} {O O' : List Addr} {H1 H' : Hp} {a : Addr} {xs : List V} {ds : List D} (h : RpAll K O H1 xs ds) (s : Step O H1 O' H') (r : Rd H' a (.tup xs)) :
    (∀ (i : Nat) d, ds[i]? = some d → (Itt K a).go i H' ∧ ∀ x H2, (Itt K a).yld i H' x H2 → Same H' H2 ∧ Rp K O' H2 x d) ∧ (Itt K a).stop ds.length H' := by
  refine ⟨fun i d e => ?_, xs, .inl r, by rw [h.length]; exact Nat.le_refl _⟩
  obtain ⟨v, ev, rv⟩ := h.get e
  refine ⟨⟨xs, v, .inl r, ev⟩, fun x H2 ⟨e2, y⟩ => ?_⟩
  subst e2
  have := y xs (.inl r)
  rw [ev] at this; cases this
  exact ⟨Same.refl, rv.step s⟩
theorem list_it' {K : PySem.W.Frag} {O O' : List Addr} {H1 H' : Hp} {a : Addr} {xs : List V} {ds : List D} (h : RpAll K O H1 xs ds) (s : Step O H1 O' H') (r : Rd H' a (.lst xs)) :
    (∀ (i : Nat) d, ds[i]? = some d → (Itl K a).go i H' ∧ ∀ x H2, (Itl K a).yld i H' x H2 → Same H' H2 ∧ Rp K O' H2 x d) ∧ (Itl K a).stop ds.length H' := by
  refine ⟨fun i d e => ?_, xs, .inl r, by rw [h.length]; exact Nat.le_refl _⟩
  obtain ⟨v, ev, rv⟩ := h.get e
  refine ⟨⟨xs, v, .inl r, ev⟩, fun x H2 ⟨e2, y⟩ => ?_⟩
  subst e2
  have := y xs (.inl r)
  rw [ev] at this; cases this
  exact ⟨Same.refl, rv.step s⟩
theorem str_it {K : PySem.W.Frag} {O' : List Addr} {H' : Hp} {z : Str} (h : PyData.strOk z = true) :
    (∀ (i : Nat) d, (z.cps.toList.map fun c => PyData.str ⟨#[c]⟩)[i]? = some d → (Its z).go i H' ∧ ∀ x H2, (Its z).yld i H' x H2 → Same H' H2 ∧ Rp K O' H2 x d) ∧ (Its z).stop (z.cps.toList.map fun c => PyData.str ⟨#[c]⟩).length H' := by
  refine ⟨fun i d e => ?_, by simp [Its]⟩
  rw [List.getElem?_map] at e
  cases q : z.cps.toList[i]? with
  | none => rw [q] at e; cases e
  | some c =>
    rw [q] at e; cases e
    have hi : i < z.cps.size := by have := (List.getElem?_eq_some_iff.mp q).1; simpa using this
    refine ⟨hi, fun x H2 ⟨e1, c', e2, e3⟩ => ?_⟩
    subst e1 e3
    rw [← Array.getElem?_toList, q] at e2
    cases e2
    exact ⟨Same.refl, .str _ (strOk_sub h fun c' h' => (List.mem_singleton.mp (show c' ∈ [c] from h')) ▸ List.mem_of_getElem? q)⟩
def wSeq (K : PySem.W.Frag) (t : TE) : TI := fun σ H R => iList K t σ H R ∨ (iTup K t σ H R ∨ iStr t σ H R)
theorem pi_seq {t : TE} (h : PE X e t) : PI X tg e (wSeq X.K t) := PI.or (pi_list h) (PI.or (pi_tup h) (pi_str h))
/-- frozen data is walked -/
theorem pis_x (h : PX X W B Ω e ga) : PIs X W B Ω tg e (xSeq ga) := PI.imp (pi_seq h) fun σ H Q ⟨H0, O0, O, ρ, S, h⟩ => by
  have h : Good X.mg W σ (fun H1 J ds => ItOk X.K H0 O H1 J ds) H ((ga ρ).bind seqD) Q := h
  cases q : ga ρ with
  | stuck => rw [q] at h; exact h.elim
  | exc n => rw [q] at h; exact .inl ⟨H0, O0, O, ρ, S, by rw [q]; exact h⟩
  | ok d =>
    rw [q] at h
    cases d <;> first | exact h.elim | skip
    · refine .inr (.inr ⟨H0, O0, O, ρ, S, ?_⟩)
      rw [q]
      intro v H1 s r
      cases r with
      | str _ hz => exact ⟨_, rfl, h _ H1 s fun O' H' _ st _ => str_it hz⟩
    · refine .inl ⟨H0, O0, O, ρ, S, ?_⟩
      rw [q]
      intro v H1 s r
      cases r with
      | lst h1 h2 => exact ⟨_, rfl, ⟨_, .inl h1.2⟩, h _ H1 s fun O' H' _ st _ => list_it' h2 st (ge_rd st.ge _ _ h1.1 h1.2).2⟩
    · refine .inr (.inl ⟨H0, O0, O, ρ, S, ?_⟩)
      rw [q]
      intro v H1 s r
      cases r with
      | tup h1 h2 => exact ⟨_, rfl, ⟨_, .inl h1.2⟩, h _ H1 s fun O' H' _ st _ => tup_it h2 st (ge_rd st.ge _ _ h1.1 h1.2).2⟩
/-- borrowed data is walked in a comprehension -/
theorem pic_b (h : PB X W B Ω e ga) : PIc X W B Ω tg e (xSeq ga) := PI.imp (pi_seq h) fun σ H Q ⟨H0, O0, O, ρ, S, h⟩ => by
  have h : Good X.mg W σ (fun H1 J ds => ItOkc X.K O H1 J ds) H ((ga ρ).bind seqD) Q := h
  cases q : ga ρ with
  | stuck => rw [q] at h; exact h.elim
  | exc n => rw [q] at h; exact .inl ⟨H0, O0, O, ρ, S, by rw [q]; exact h⟩
  | ok d =>
    rw [q] at h
    cases d <;> first | exact h.elim | skip
    · refine .inr (.inr ⟨H0, O0, O, ρ, S, ?_⟩)
      rw [q]
      intro v H1 s r
      obtain ⟨rfl, hz⟩ := r.str
      exact ⟨_, rfl, h _ H1 s fun O' H' _ st _ => str_it hz⟩
    · refine .inl ⟨H0, O0, O, ρ, S, ?_⟩
      rw [q]
      intro v H1 s r
      obtain ⟨p, xs, rfl, h1, h2⟩ := r.lst
      exact ⟨_, rfl, ⟨_, .inl h1⟩, h _ H1 s fun O' H' ss st _ => list_it' h2 st (Rd.same ss h1)⟩
    · refine .inr (.inl ⟨H0, O0, O, ρ, S, ?_⟩)
      rw [q]
      intro v H1 s r
      obtain ⟨p, xs, rfl, h1, h2⟩ := r.tup
      exact ⟨_, rfl, ⟨_, .inl h1.2⟩, h _ H1 s fun O' H' ss st _ => tup_it h2 st (Rd.same ss h1.2)⟩
/-- a borrowed parameter is walked -/
theorem pis_b {i : Nat} {x : Str} (hN : X.N[i]? = some x) (hv : Vis X.env.scope x) (ho : Ω.contains i = false) (hd : (x == ("__debug__" : Str)) = false := by decide) (hcd : (x == ("__classdict__" : Str)) = false := by decide) : PIs X W B Ω tg (.Name x pos) (xSeq (xVar i)) :=
  PI.imp (pi_seq (pe_var hN hv hd hcd)) fun σ H Q ⟨H0, O0, O, ρ, S, h⟩ => by
  have ho : i ∉ Ω := by simpa using ho
  have h : Good X.mg W σ (fun H1 J ds => ItOk X.K H0 O H1 J ds) H ((xVar i ρ).bind seqD) Q := h
  unfold xVar at h
  cases er : ρ[i]? with
  | none => rw [er] at h; exact h.elim
  | some o =>
    cases o with
    | none => rw [er] at h; exact h.elim
    | some d =>
      rw [er] at h
      have fin : ∀ v, σ[i]? = some (some v) → Rs X.K O H0 H v d → wSeq X.K (tVar i) σ H Q := fun v ev r => by
        cases d <;> first | exact h.elim | skip
        · obtain ⟨rfl, hz⟩ := r.str
          exact .inr (.inr ⟨_, ev, _, rfl, h _ H Same.refl fun O' H' _ st _ => str_it hz⟩)
        · have out : ∀ p xs, v = .ref p → RpAll X.K O H xs _ → (∀ O' H', Same H0 H' → Step O H O' H' → Rd H' p (.lst xs)) → Rd H p (.lst xs) → wSeq X.K (tVar i) σ H Q := fun p xs ep h2 hr h1 => by
            subst ep
            exact .inl ⟨_, ev, p, rfl, ⟨xs, .inl h1⟩, h _ H Same.refl fun O' H' ss st _ => list_it' h2 st (hr O' H' ss st)⟩
          rcases r with r | ⟨p, rfl, xs, h1, h2⟩
          · cases r with
            | lst h1 h2 => exact out _ _ rfl h2 (fun O' H' _ st => (ge_rd st.ge _ _ h1.1 h1.2).2) h1.2
          · exact out p xs rfl h2 (fun O' H' ss _ => Rd.same ss h1) (Rd.same S.keep h1)
        · obtain ⟨p, xs, rfl, h1, h2⟩ := r.tup
          exact .inr (.inl ⟨_, ev, p, rfl, ⟨xs, .inl h1.2⟩, h _ H Same.refl fun O' H' _ st _ => tup_it h2 st (ge_rd st.ge _ _ h1.1 h1.2).2⟩)
      by_cases hb : i ∈ B
      · obtain ⟨v, ev, r⟩ := S.bor i d er ho hb
        exact fin v ev r
      · obtain ⟨v, ev, r⟩ := S.fz i d er ho hb
        exact fin v ev (.inl r)
theorem PIs.c {g : Env → R (List D)} (h : PIs X W B Ω tg e g) : PIc X W B Ω tg e g := PI.imp h fun σ H Q ⟨H0, O0, O, ρ, S, h⟩ => by
  refine ⟨H0, O0, O, ρ, S, ?_⟩
  cases q : g ρ with
  | stuck => rw [q] at h; exact h
  | exc n => rw [q] at h; exact h
  | ok ds =>
    rw [q] at h
    exact fun J H1 s i => h J H1 s fun O' H' ss st ht => i O' H' (Same.tr (Same.tr S.keep s) ss) st ht
/-- range -/
def rngL (lo : Int) (n : Nat) : List D := (List.range n).map fun (i : Nat) => PyData.int (lo + i)
def rng1 : List D → R (List D)
  | [.int j] => if -(2 ^ 62) ≤ j ∧ j < 2 ^ 62 then .ok (rngL 0 j.toNat) else .stuck
  | _ => .stuck
def rng2 : List D → R (List D)
  | [.int i, .int j] => if -(2 ^ 62) ≤ i ∧ i < 2 ^ 62 ∧ -(2 ^ 62) ≤ j ∧ j < 2 ^ 62 then .ok (rngL i (j - i).toNat) else .stuck
  | _ => .stuck
theorem rng_it {K : PySem.W.Frag} {O' : List Addr} {H' : Hp} (lo : Int) (n : Nat) :
    (∀ (i : Nat) d, (rngL lo n)[i]? = some d → (Itr lo n).go i H' ∧ ∀ x H2, (Itr lo n).yld i H' x H2 → Same H' H2 ∧ Rp K O' H2 x d) ∧ (Itr lo n).stop (rngL lo n).length H' := by
  refine ⟨fun i d e => ?_, by simp [rngL, Itr]⟩
  unfold rngL at e
  rw [List.getElem?_map] at e
  cases q : (List.range n)[i]? with
  | none => rw [q] at e; cases e
  | some j =>
    rw [q] at e; cases e
    obtain ⟨hi, ej⟩ := List.getElem?_eq_some_iff.mp q
    rw [List.getElem_range] at ej
    subst ej
    have hi' : i < n := by simpa using hi
    refine ⟨hi', fun x H2 ⟨e1, e2⟩ => ?_⟩
    subst e1 e2
    exact ⟨Same.refl, .int _⟩
def xRng (f : List D → R (List D)) (gs : Env → R (List D)) : Env → R (List D) := fun ρ => (gs ρ).bind f
theorem pis_range1 {gs : Env → R (List D)} (hg : Gl X "range") (hm : X.mg "range" = none) (ha : PAf X W B Ω [a] gs) (hs : starEach [a] X.env = [(false, eval a X.env)] := by rfl) : PIs X W B Ω tg (.Call (.Name "range" p) [a] [] pos) (xRng rng1 gs) :=
  PI.imp (pi_range1 hg hm ha hs) fun σ H Q ⟨H0, O0, O, ρ, S, h⟩ => ⟨H0, O0, O, ρ, S, Good.bind (f := rng1) h fun ds vs H1 e s1 r1 h1 => by
    unfold rng1 at h1
    split at h1
    · rename_i j
      split at h1
      · rename_i hj
        cases r1 with
        | cons r1 r2 =>
          cases r1; cases r2
          exact ⟨j, rfl, hj.1, hj.2, h1.use fun O' H' _ _ _ => rng_it 0 j.toNat⟩
      · exact h1.elim
    · exact h1.elim⟩
theorem pis_range2 {gs : Env → R (List D)} (hg : Gl X "range") (hm : X.mg "range" = none) (ha : PAf X W B Ω [a, b] gs) (hs : starEach [a, b] X.env = [(false, eval a X.env), (false, eval b X.env)] := by rfl) (hs2 : starEach [b] X.env = [(false, eval b X.env)] := by rfl) :
    PIs X W B Ω tg (.Call (.Name "range" p) [a, b] [] pos) (xRng rng2 gs) :=
  PI.imp (pi_range2 hg hm ha hs hs2) fun σ H Q ⟨H0, O0, O, ρ, S, h⟩ => ⟨H0, O0, O, ρ, S, Good.bind (f := rng2) h fun ds vs H1 e s1 r1 h1 => by
    unfold rng2 at h1
    split at h1
    · rename_i i j
      split at h1
      · rename_i hj
        cases r1 with
        | cons r1 r2 =>
          cases r2 with
          | cons r2 r3 =>
            cases r1; cases r2; cases r3
            exact ⟨i, j, rfl, hj, h1.use fun O' H' _ _ _ => rng_it i (j - i).toNat⟩
      · exact h1.elim
    · exact h1.elim⟩
end
end MV

set_option Elab.async false
set_option linter.all false
set_option maxRecDepth 100000
set_option maxHeartbeats 4000000
namespace MV
open PySem L2

section
variable {X : Cx} {W : WX} {B Ω : List Nat} {k : Nat} {tg iter elt : Expr} {pos p : Pos} {g : TG} {is : List Nat} {bnd : D → Env → Option Env} {gi : Env → R (List D)} {gt : Env → R Bool} {ge : Env → R D}
/-! ### comprehensions -/
/-- what is not raised within -/
def R.in {α : Type} : R α → R α
  | .exc _ => .stuck
  | r => r
def lcL (bnd : D → Env → Option Env) (gt : Env → R Bool) (ge : Env → R D) (ρ : Env) : List D → R (List D)
  | [] => .ok []
  | d :: ds => match bnd d ρ with
    | none => .stuck
    | some ρ' => match gt ρ' with
      | .ok true => match ge ρ' with
        | .ok y => (lcL bnd gt ge ρ ds).bind fun ys => .ok (y :: ys)
        | _ => .stuck
      | .ok false => lcL bnd gt ge ρ ds
      | _ => .stuck
def xLc (ws : List Nat) (gi : Env → R (List D)) (bnd : D → Env → Option Env) (gt : Env → R Bool) (ge : Env → R D) : Env → R D := fun ρ => (gi ρ).bind fun ds => if ds.length ≤ sizeLine then (lcL bnd gt ge (wipeE ρ ws) ds).bind fun ys => .ok (.list ys) else .stuck
def tYesX : Env → R Bool := fun _ => .ok true
def PTsx (X : Cx) (W : WX) (B Ω : List Nat) (ifs : List Expr) (g : Env → R Bool) : Prop := PTs X ifs (tT X.K X.mg W B Ω g)
theorem PTs_imp {X : Cx} {e : List Expr} {t t' : TT} (h : PTs X e t) (w : ∀ σ H Q, t' σ H Q → t σ H Q) : PTs X e t' := ⟨fun pins s σ H Q I q => h.run pins s σ H Q I (w σ H Q q)⟩
theorem ptsx_nil : PTsx X W B Ω [] tYesX := PTs_imp pts_nil fun σ H Q ⟨H0, O0, O, ρ, S, h⟩ => h.use rfl
theorem ptsx_one {c : Expr} (h : PTx X W B Ω c gt) : PTsx X W B Ω [c] gt := pts_one h
theorem lcL_noexc : ∀ (ds : List D) (ρ : Env) (n : Str), lcL bnd gt ge ρ ds ≠ .exc n
  | [], ρ, n => by simp [lcL]
  | d :: ds, ρ, n => by
    unfold lcL
    split
    · simp
    · split
      · split
        · cases e : lcL bnd gt ge ρ ds with
          | ok ys => simp
          | exc m => exact absurd e (lcL_noexc ds ρ m)
          | stuck => simp
        · simp
      · exact lcL_noexc ds ρ n
      · simp
theorem wipeE_get : ∀ {ws : List Nat} {ρ : Env} {j : Nat} {d : D}, (wipeE ρ ws)[j]? = some (some d) → ρ[j]? = some (some d)
  | [], _, _, _, h => h
  | w :: ws, ρ, j, d, h => by
    unfold wipeE at h
    by_cases hj : w = j
    · subst hj
      by_cases hl : w < (wipeE ρ ws).length
      · rw [List.getElem?_set_self hl] at h; cases h
      · rw [List.getElem?_eq_none (by rw [List.length_set]; omega)] at h; cases h
    · rw [List.getElem?_set_ne hj] at h
      exact wipeE_get h
theorem lc_run {K : PySem.W.Frag} {mg : Str → Option Value} {ws : List Nat} {σ : St} {H : Hp} {Q : VK} (hsub : ∀ i ∈ is, i ∈ ws) (hown : ∀ i ∈ ws, i ∉ Ω)
    (use : TgU K B Ω g is bnd)
    (h : tO K mg W B Ω (xLc ws gi bnd gt ge) σ H Q) : tLc (tIc K mg W B Ω gi) g (tT K mg W0 B Ω gt) (tX K mg W0 B Ω ge) ws σ H Q := by
  obtain ⟨H0, O0, O, ρ, S, h⟩ := h
  refine ⟨H0, O0, O, ρ, S, Good.bind h fun ds J H1 e1 s1 it h1 => ?_⟩
  split at h1
  case isFalse => exact h1.elim
  rename_i hlen
  intro A hA
  have S1 := S.same s1
  cases ez : lcL bnd gt ge (wipeE ρ ws) ds with
  | exc n => exact absurd ez (lcL_noexc ds _ n)
  | stuck => rw [ez] at h1; exact h1.elim
  | ok zs =>
  rw [ez] at h1
  have h1 : Good mg W σ (RelO K O H) H1 (.ok (.list zs)) Q := h1
  have hAO : A ∉ O := fun z => S1.trk A z hA
  have hA0 : H0 A = none := free_back S1.keep hA
  let P : Nat → Hp → Prop := fun i H' => Same H1 H' ∧ Stt K H0 O0 B Ω (A :: O) H' (wipe σ ws) (wipeE ρ ws) ∧ ∃ acc ys rest, H' A = some (.lst acc) ∧ RpAll K (A :: O) H' acc ys ∧ ys.length ≤ i ∧ lcL bnd gt ge (wipeE ρ ws) (ds.drop i) = .ok rest ∧ ys ++ rest = zs
  have p0 : P 0 (upd H1 A (.lst [])) := ⟨same_upd hA, (S1.wipe ws).watch (same_upd hA) hA (by rw [upd_same]; simp), [], [], zs, upd_same, .nil, Nat.le_refl _, by simpa using ez, rfl⟩
  have hno : ∀ (σ' : St), (∀ j ∈ Ω, σ'[j]? = (wipe σ ws)[j]?) → ∀ j ∈ Ω, σ'[j]? = some (some (V.ref A)) → ∀ d, ρ[j]? = some (some d) → False := fun σ' hs j hj e d ed => by
    obtain ⟨q, e', e2, _, _⟩ := S1.ow j d ed hj
    rw [hs j hj, wipe_get, if_neg (fun z => hown j z hj), e'] at e
    cases e
    exact hAO e2
  refine ⟨fun i m H' => m = ds.length - i ∧ i ≤ ds.length ∧ P i H', ⟨ds.length, by omega, Nat.zero_le _, p0⟩, ?_⟩
  rintro i m H' ⟨rfl, hi, ss, SP, acc, ys, rest, hacc, hys, hyl, hrest, hz⟩
  have stp : Step O H1 (A :: O) H' := ⟨Ge.of_same ss, fun a ha => (List.mem_cons.mp ha).elim (fun z => .inr (z ▸ hA)) .inl⟩
  obtain ⟨go, stop⟩ := it (A :: O) H' ss stp SP.trk
  by_cases hlt : i < ds.length
  · have ed : ds[i]? = some ds[i] := List.getElem?_eq_getElem hlt
    obtain ⟨g1, g2⟩ := go i _ ed
    refine .inr ⟨g1, P (i + 1), fun H2 p => ⟨ds.length - (i + 1), by omega, rfl, hlt, p⟩, fun x H2 y => ?_⟩
    obtain ⟨sy, rx⟩ := g2 x H2 y
    have hdrop : ds.drop i = ds[i] :: ds.drop (i + 1) := List.drop_eq_getElem_cons hlt
    rw [hdrop] at hrest
    unfold lcL at hrest
    split at hrest
    · cases hrest
    rename_i ρ' eb
    refine use (SP.same sy) rx eb fun σ' S' hw ho => ?_
    have hw2 : wipe σ' ws = wipe σ ws := by
      rw [hw ws hsub]
      apply List.ext_getElem?
      intro j
      rw [wipe_get, wipe_get, wipe_length]
      split <;> rfl
    refine ⟨hw2, ?_⟩
    split at hrest
    · -- kept
      rename_i egt
      refine ⟨H0, O0, A :: O, ρ', S', ?_⟩
      rw [egt]
      intro b H3 s3 eb3
      have eb3 : b = true := eb3
      subst eb3
      simp only [if_true]
      split at hrest
      · rename_i yv ege
        refine ⟨H0, O0, A :: O, ρ', S'.same s3, ?_⟩
        rw [ege]
        intro yw H4 s4 r4
        cases er : lcL bnd gt ge (wipeE ρ ws) (ds.drop (i + 1)) with
        | exc n => exact absurd er (lcL_noexc _ _ n)
        | stuck => rw [er] at hrest; cases hrest
        | ok rest2 =>
          rw [er] at hrest
          cases hrest
          have s24 := Same.tr (Same.tr sy s3) s4
          have hacc4 : H4 A = some (.lst acc) := s24 A _ hacc
          have hl := hys.length
          refine ⟨acc, hacc4, by omega, fun a o e => ?_, (SP.same s24).chg List.mem_cons_self hA0 (fun j hj d' eρ e => ?_), acc ++ [yw], ys ++ [yv], rest2, upd_same, ?_, by simp; omega, er, by simpa using hz⟩
          · have : a ≠ A := fun z => by rw [z, hA] at e; cases e
            rw [upd_ne this]
            exact s24 a o (ss a o e)
          · exact hno (wipe σ ws) (fun _ _ => rfl) j hj e d' (wipeE_get eρ)
          · have ge2 : Ge (A :: O) H4 (upd H4 A (.lst (acc ++ [yw]))) := fun a u ha e => by rw [upd_ne (fun z => ha (by rw [z]; exact List.mem_cons_self))]; exact e
            exact ((hys.same s24).ge ge2).append (RpAll.one (r4.ge ge2))
      · cases hrest
    · -- left out
      rename_i egt
      refine ⟨H0, O0, A :: O, ρ', S', ?_⟩
      rw [egt]
      intro b H3 s3 eb3
      have eb3 : b = false := eb3
      subst eb3
      have s23 := Same.tr sy s3
      exact ⟨Same.tr ss s23, SP.same s23, acc, ys, rest, s23 A _ hacc, hys.same s23, by omega, hrest, hz⟩
    · cases hrest
  · have e : i = ds.length := by omega
    subst e
    rw [List.drop_length] at hrest
    cases hrest
    rw [List.append_nil] at hz
    subst hz
    refine .inl ⟨stop, h1 _ H' ss ⟨A, rfl, free_back s1 hA, acc, hacc, hys⟩⟩
theorem po_lc {scope : Scope} {own : List (Str × Nat)} {ifs : List Expr} (G : Gd X W k) (hi : PIc X W B Ω tg iter gi) (ok : BlkOk X.N X.env.scope scope own) (u : TgU X.K B Ω g is bnd) (hsub : is.all ((own.map (·.2)).contains ·) = true) (hown : (own.map (·.2)).all (fun i => !Ω.contains i) = true)
    (hg : ∀ (s : Shared) (H : Hp) (C : Addr) (cl : List (Str × Addr)) (fp : List Addr), PG (X.blk s H scope (compEnvC scope cl C X.env) fp) tg g)
    (ht : ∀ (s : Shared) (H : Hp) (C : Addr) (cl : List (Str × Addr)) (fp : List Addr), PTsx (X.blk s H scope (compEnvC scope cl C X.env) fp) W0 B Ω ifs gt)
    (he : ∀ (s : Shared) (H : Hp) (C : Addr) (cl : List (Str × Addr)) (fp : List Addr), PX (X.blk s H scope (compEnvC scope cl C X.env) fp) W0 B Ω elt ge) (hs : ∀ x, foldedSetIterable iter X.env x = pure x := by intro _; rfl) :
    PO X W B Ω (.ListComp elt [⟨tg, iter, ifs, 0⟩] scope pos) (xLc (own.map (·.2)) gi bnd gt ge) :=
  PE.imp (pe_lc (tt := tT X.K X.mg W0 B Ω gt) (te := tX X.K X.mg W0 B Ω ge) G.hc G.nd hi ok hg ht he hs) fun σ H Q h => lc_run (fun i hi => by simpa using List.all_eq_true.mp hsub i hi) (fun i hi => by simpa using List.all_eq_true.mp hown i hi) u h
end
end MV

set_option Elab.async false
set_option linter.all false
set_option maxRecDepth 100000
set_option maxHeartbeats 4000000
namespace MV
open PySem L2

/-! ### statements -/
inductive Out where
  | next (ρ : Env)
  | brk (ρ : Env)
  | cnt (ρ : Env)
  | ret (d : D)
  | exc (n : Str) (ρ : Env)
  | stuck
abbrev YF := Env → Out
section
variable (K : PySem.W.Frag) (mg : Str → Option Value) (W : WX) (fr : Bool) (H0 : Hp) (O0 : List Addr) (B Ωl Ω' : List Nat)
def GoodS (O : List Addr) (H : Hp) (o : Out) (Dn : Ends) : Prop := match o with
  | .next ρ' => ∀ σ' O' H', Step O H O' H' → Stt K H0 O0 B Ω' O' H' σ' ρ' → Dn.nx σ' H'
  | .brk ρ' => ∀ σ' O' H', Step O H O' H' → Stt K H0 O0 B Ωl O' H' σ' ρ' → Dn.bk σ' H'
  | .cnt ρ' => ∀ σ' O' H', Step O H O' H' → Stt K H0 O0 B Ωl O' H' σ' ρ' → Dn.ct σ' H'
  | .ret d => RetG K fr O0 H0 d Dn.rt
  | .exc n ρ' => ∀ C σ' O' H', mg n = some (Value.ref C) → Step O H O' H' → Stt K H0 O0 B [] O' H' σ' ρ' → W (.ref C) none σ' H'
  | .stuck => False
end
def tY (K : PySem.W.Frag) (mg : Str → Option Value) (W : WX) (fr : Bool) (B Ωl Ω Ω' : List Nat) (f : YF) : TS := fun Dn σ H => ∃ H0 O0 O ρ, Stt K H0 O0 B Ω O H σ ρ ∧ GoodS K mg W fr H0 O0 B Ωl Ω' O H (f ρ) Dn
def PY (X : Cx) (W : WX) (fr : Bool) (B Ωl Ω Ω' : List Nat) (st : Stmt) (f : YF) : Prop := PS X st (tY X.K X.mg W fr B Ωl Ω Ω' f)
def PYs (X : Cx) (W : WX) (fr : Bool) (B Ωl Ω Ω' : List Nat) (st : List Stmt) (f : YF) : Prop := PSs X st (tY X.K X.mg W fr B Ωl Ω Ω' f)

section
variable {K : PySem.W.Frag} {mg : Str → Option Value} {W : WX} {fr : Bool} {H0 : Hp} {O0 : List Addr} {B Ωl Ω Ω' Ω2 : List Nat} {O O' : List Addr} {H H' : Hp} {o : Out} {Dn : Ends}
theorem GoodS.step (s : Step O H O' H') (h : GoodS K mg W fr H0 O0 B Ωl Ω' O H o Dn) : GoodS K mg W fr H0 O0 B Ωl Ω' O' H' o Dn := by
  cases o with
  | next ρ => exact fun σ' O2 H2 s2 S => h σ' O2 H2 (s.tr s2) S
  | brk ρ => exact fun σ' O2 H2 s2 S => h σ' O2 H2 (s.tr s2) S
  | cnt ρ => exact fun σ' O2 H2 s2 S => h σ' O2 H2 (s.tr s2) S
  | ret d => exact h
  | exc n ρ => exact fun C σ' O2 H2 m s2 S => h C σ' O2 H2 m (s.tr s2) S
  | stuck => exact h
end
def noB (B Ω : List Nat) : Bool := Ω.all fun i => !B.contains i
theorem noB_of {B Ω : List Nat} (h : noB B Ω = true) : ∀ i ∈ Ω, i ∉ B := fun i hi => by simpa using List.all_eq_true.mp h i hi
section
variable {X : Cx} {W : WX} {fr : Bool} {B Ωl Ω Ω' Ω2 : List Nat} {k : Nat} {st : Stmt} {rest : List Stmt} {e c : Expr} {g : Env → R D} {gt : Env → R Bool} {f f' : YF} {pos p : Pos}
/-- an expression's result, then what follows; an exception leaves -/
def yB {α : Type} (r : R α) (ρ : Env) (f : α → Out) : Out := match r with
  | .ok a => f a
  | .exc n => .exc n ρ
  | .stuck => .stuck
@[simp] theorem yB_ok {α : Type} (a : α) (ρ : Env) (f : α → Out) : yB (.ok a) ρ f = f a := rfl
@[simp] theorem yB_exc {α : Type} (n : Str) (ρ : Env) (f : α → Out) : yB (.exc n) ρ f = .exc n ρ := rfl
@[simp] theorem yB_stuck {α : Type} (ρ : Env) (f : α → Out) : yB .stuck ρ f = .stuck := rfl
theorem goodB {α β : Type} {Rel : Hp → β → α → Prop} {H0 : Hp} {O0 O : List Addr} {H : Hp} {σ : St} {ρ : Env} {r : R α} {ff : α → Out} {Dn : Ends} {Q : β → Hp → Prop} (hB : noB B Ω = true) (S : Stt X.K H0 O0 B Ω O H σ ρ) (h : GoodS X.K X.mg W fr H0 O0 B Ωl Ω' O H (yB r ρ ff) Dn)
    (k : ∀ d v H1, r = .ok d → Same H H1 → Rel H1 v d → GoodS X.K X.mg W fr H0 O0 B Ωl Ω' O H1 (ff d) Dn → Q v H1) : Good X.mg W σ Rel H r Q := by
  cases r with
  | ok d => exact fun v H1 s rr => k d v H1 rfl s rr (GoodS.step (Step.of_same s) h)
  | exc n =>
    intro C H1 m s
    obtain ⟨O', s', S'⟩ := (S.same s).giveAll (noB_of hB)
    exact h C σ O' H1 m ((Step.of_same s).tr s') S'
  | stuck => exact h
def ySeq (f g : YF) : YF := fun ρ => match f ρ with
  | .next ρ' => g ρ'
  | o => o
def yNil : YF := .next
theorem pys_nil : PYs X W fr B Ωl Ω Ω [] yNil := PSs.imp pss_nil fun Dn σ H ⟨H0, O0, O, ρ, S, h⟩ => h σ O H Step.refl S
theorem pys_cons (h1 : PY X W fr B Ωl Ω Ω2 st f) (h2 : PYs X W fr B Ωl Ω2 Ω' rest f') : PYs X W fr B Ωl Ω Ω' (st :: rest) (ySeq f f') := PSs.imp (pss_cons h1 h2) fun Dn σ H ⟨H0, O0, O, ρ, S, h⟩ => by
  refine ⟨H0, O0, O, ρ, S, ?_⟩
  unfold ySeq at h
  cases q : f ρ with
  | next ρ' => rw [q] at h; exact fun σ' O' H' s S' => ⟨H0, O0, O', ρ', S', h.step s⟩
  | brk ρ' => rw [q] at h; exact h
  | cnt ρ' => rw [q] at h; exact h
  | ret d => rw [q] at h; exact h
  | exc n ρ' => rw [q] at h; exact h
  | stuck => rw [q] at h; exact h
theorem pys_one (h1 : PY X W fr B Ωl Ω Ω' st f) : PYs X W fr B Ωl Ω Ω' [st] f := pss_one h1
/-- an own slot is given up ahead of a statement -/
theorem pys_give (i : Nat) (hB : B.contains i = false) (h : PYs X W fr B Ωl (Ω.filter (· ≠ i)) Ω' rest f) : PYs X W fr B Ωl Ω Ω' rest f := PSs.imp h fun Dn σ H ⟨H0, O0, O, ρ, S, h⟩ => by
  obtain ⟨O', s, S'⟩ := S.give i (by simpa using hB)
  exact ⟨H0, O0, O', ρ, S', h.step s⟩
theorem py_give (i : Nat) (hB : B.contains i = false) (h : PY X W fr B Ωl (Ω.filter (· ≠ i)) Ω' st f) : PY X W fr B Ωl Ω Ω' st f := PS.imp h fun Dn σ H ⟨H0, O0, O, ρ, S, h⟩ => by
  obtain ⟨O', s, S'⟩ := S.give i (by simpa using hB)
  exact ⟨H0, O0, O', ρ, S', h.step s⟩
/-- .. behind it -/
theorem pys_lose (i : Nat) (hB : B.contains i = false) (h : PYs X W fr B Ωl Ω Ω' rest f) : PYs X W fr B Ωl Ω (Ω'.filter (· ≠ i)) rest f := PSs.imp h fun Dn σ H ⟨H0, O0, O, ρ, S, h⟩ => by
  refine ⟨H0, O0, O, ρ, S, ?_⟩
  cases q : f ρ with
  | next ρ' =>
    rw [q] at h
    intro σ' O' H' s S'
    obtain ⟨O2, s2, S2⟩ := S'.give i (by simpa using hB)
    exact h σ' O2 H' (s.tr s2) S2
  | brk ρ' => rw [q] at h; exact h
  | cnt ρ' => rw [q] at h; exact h
  | ret d => rw [q] at h; exact h
  | exc n ρ' => rw [q] at h; exact h
  | stuck => rw [q] at h; exact h
theorem pys_giveE (i : Nat) {Ω1 : List Nat} (hB : B.contains i = false) (h : PYs X W fr B Ωl Ω1 Ω' rest f) (eΩ : Ω.filter (· ≠ i) = Ω1 := by rfl) : PYs X W fr B Ωl Ω Ω' rest f := pys_give i hB (eΩ ▸ h)
theorem py_giveE (i : Nat) {Ω1 : List Nat} (hB : B.contains i = false) (h : PY X W fr B Ωl Ω1 Ω' st f) (eΩ : Ω.filter (· ≠ i) = Ω1 := by rfl) : PY X W fr B Ωl Ω Ω' st f := py_give i hB (eΩ ▸ h)
theorem pys_loseE (i : Nat) {Ω1 : List Nat} (hB : B.contains i = false) (h : PYs X W fr B Ωl Ω Ω1 rest f) (eΩ : Ω1.filter (· ≠ i) = Ω' := by rfl) : PYs X W fr B Ωl Ω Ω' rest f := eΩ ▸ pys_lose i hB h
theorem pys_eq {Ω1 : List Nat} (h : PYs X W fr B Ωl Ω Ω1 rest f) (e : Ω1 = Ω' := by rfl) : PYs X W fr B Ωl Ω Ω' rest f := e ▸ h
def sameSet (a b : List Nat) : Bool := a.all (b.contains ·) && b.all (a.contains ·)
theorem Stt.perm {K : PySem.W.Frag} {H0 : Hp} {O0 O : List Addr} {H : Hp} {σ : St} {ρ : Env} (S : Stt K H0 O0 B Ω O H σ ρ) (e : sameSet Ω Ω' = true) : Stt K H0 O0 B Ω' O H σ ρ := by
  unfold sameSet at e
  simp only [Bool.and_eq_true, List.all_eq_true, List.contains_iff_mem] at e
  obtain ⟨e1, e2⟩ := e
  exact ⟨S.keep, S.trk0, S.sub, S.trk, fun i d h1 h2 h3 => S.fz i d h1 (fun z => h2 (e1 i z)) h3, fun i d h1 h2 h3 => S.bor i d h1 (fun z => h2 (e1 i z)) h3, fun i d h1 h2 => S.ow i d h1 (e2 i h2), fun i hi j hj => S.dist i (e2 i hi) j (e2 j hj), S.len⟩
theorem py_perm {Ω1 : List Nat} (h : PY X W fr B Ωl Ω Ω1 st f) (e : sameSet Ω1 Ω' = true := by rfl) : PY X W fr B Ωl Ω Ω' st f := PS.imp h fun Dn σ H ⟨H0, O0, O, ρ, S, h⟩ => by
  refine ⟨H0, O0, O, ρ, S, ?_⟩
  cases q : f ρ with
  | next ρ' => rw [q] at h; exact fun σ' O' H' s S' => h σ' O' H' s (S'.perm e)
  | brk ρ' => rw [q] at h; exact h
  | cnt ρ' => rw [q] at h; exact h
  | ret d => rw [q] at h; exact h
  | exc n ρ' => rw [q] at h; exact h
  | stuck => rw [q] at h; exact h
def yPass : YF := .next
def yBrk : YF := .brk
def yCnt : YF := .cnt
theorem py_pass : PY X W fr B Ωl Ω Ω (.Pass pos) yPass := PS.imp ps_pass fun Dn σ H ⟨H0, O0, O, ρ, S, h⟩ => h σ O H Step.refl S
theorem py_break : PY X W fr B Ω Ω Ω' (.Break pos) yBrk := PS.imp ps_break fun Dn σ H ⟨H0, O0, O, ρ, S, h⟩ => h σ O H Step.refl S
theorem py_continue : PY X W fr B Ω Ω Ω' (.Continue pos) yCnt := PS.imp ps_continue fun Dn σ H ⟨H0, O0, O, ρ, S, h⟩ => h σ O H Step.refl S
def ySet (i : Nat) (g : Env → R D) : YF := fun ρ => yB (g ρ) ρ fun d => .next (ρ.set i (some d))
theorem py_set {i : Nat} {x : Str} {pos' : Pos} (G : Gd X W k) (hB : noB B Ω = true) (hb : B.contains i = false) (hi : X.N[i]? = some x) (hx : Loc X.env.scope x) (he : PX X W B Ω e g) (hs : swapsWith e (some (.Name x pos')) pos.line X.env = pure false := by rfl)
    (hf : X.fn x = true ∨ X.env.scope.names.lookup x = some .local := by first | exact .inl rfl | exact .inr rfl | assumption) (eΩ : Ω.filter (· ≠ i) = Ω' := by rfl) : PY X W fr B Ωl Ω Ω' (.Assign [.Name x pos'] e pos) (ySet i g) :=
  eΩ ▸ PS.imp (ps_set G.nd hi hx he hs hf) fun Dn σ H ⟨H0, O0, O, ρ, S, h⟩ => ⟨H0, O0, O, ρ, S, goodB (ff := fun d => .next (ρ.set i (some d))) hB S h fun d v H1 e1 s1 r1 h1 => h1 _ O H1 Step.refl ((S.same s1).set r1 (by simpa using hb))⟩
theorem own_setO {K : PySem.W.Frag} {H0 : Hp} {O0 O : List Addr} {H H1 : Hp} {σ : St} {ρ : Env} {i : Nat} {v : V} {d : D} (S : Stt K H0 O0 B Ω O H σ ρ) (s : Same H H1) (r : RelO K O H H1 v d) (hb : B.contains i = false) :
    ∃ O', Step O H O' H1 ∧ Stt K H0 O0 B (i :: Ω.filter (· ≠ i)) O' H1 (σ.set i (some v)) (ρ.set i (some d)) := by
  obtain ⟨p, rfl, hp, w⟩ := r
  exact ⟨p :: O, ⟨Ge.of_same s, fun a ha => (List.mem_cons.mp ha).elim (fun z => .inr (by rw [z]; exact hp)) .inl⟩, S.setO s hp w (by simpa using hb)⟩
theorem py_setO {i : Nat} {x : Str} {pos' : Pos} (G : Gd X W k) (hB : noB B Ω = true) (hb : B.contains i = false) (hi : X.N[i]? = some x) (hx : Loc X.env.scope x) (he : PO X W B Ω e g) (hs : swapsWith e (some (.Name x pos')) pos.line X.env = pure false := by rfl)
    (hf : X.fn x = true ∨ X.env.scope.names.lookup x = some .local := by first | exact .inl rfl | exact .inr rfl | assumption) (eΩ : i :: Ω.filter (· ≠ i) = Ω' := by rfl) : PY X W fr B Ωl Ω Ω' (.Assign [.Name x pos'] e pos) (ySet i g) :=
  eΩ ▸ PS.imp (ps_set G.nd hi hx he hs hf) fun Dn σ H ⟨H0, O0, O, ρ, S, h⟩ => ⟨H0, O0, O, ρ, S, by
    unfold ySet at h
    cases q : g ρ with
    | ok d =>
      rw [q] at h
      intro v H1 s1 r1
      obtain ⟨O', st, S'⟩ := own_setO (i := i) S s1 r1 hb
      exact h _ O' H1 st S'
    | exc n =>
      rw [q] at h
      intro C H1 m s
      obtain ⟨O', s', S'⟩ := (S.same s).giveAll (noB_of hB)
      exact h C σ O' H1 m ((Step.of_same s).tr s') S'
    | stuck => rw [q] at h; exact h⟩
/-- name = [..] where the name is no cell -/
theorem py_setLc {i : Nat} {y : Str} {py spos : Pos} {elt tg iter : Expr} {ifs : List Expr} {scope : Scope} {own : List (Str × Nat)} {gi : Env → R (List D)} {ge : Env → R D} {tgg : TG} {is : List Nat} {bnd : D → Env → Option Env} (G : Gd X W k) (hB : noB B Ω = true) (hb : B.contains i = false)
    (hy : X.N[i]? = some y) (hyl : X.env.scope.names.lookup y = some .local) (hsw : swapsWith (.ListComp elt [⟨tg, iter, ifs, 0⟩] scope pos) (some (.Name y py)) spos.line X.env = pure true)
    (hi : PIc X W B Ω tg iter gi) (ok : BlkOk X.N X.env.scope scope own) (u : TgU X.K B Ω tgg is bnd) (hsub : is.all ((own.map (·.2)).contains ·) = true) (hown : (own.map (·.2)).all (fun i => !Ω.contains i) = true)
    (hg : ∀ (s : Shared) (H : Hp) (C : Addr) (cl : List (Str × Addr)) (fp : List Addr), PG (X.blk s H scope (compEnvC scope cl C X.env) fp) tg tgg)
    (ht : ∀ (s : Shared) (H : Hp) (C : Addr) (cl : List (Str × Addr)) (fp : List Addr), PTsx (X.blk s H scope (compEnvC scope cl C X.env) fp) W0 B Ω ifs gt)
    (he : ∀ (s : Shared) (H : Hp) (C : Addr) (cl : List (Str × Addr)) (fp : List Addr), PX (X.blk s H scope (compEnvC scope cl C X.env) fp) W0 B Ω elt ge) (eΩ : i :: Ω.filter (· ≠ i) = Ω' := by rfl) (hs : ∀ x, foldedSetIterable iter X.env x = pure x := by intro _; rfl) :
    PY X W fr B Ωl Ω Ω' (.Assign [.Name y py] (.ListComp elt [⟨tg, iter, ifs, 0⟩] scope pos) spos) (ySet i (xLc (own.map (·.2)) gi bnd gt ge)) :=
  eΩ ▸ PS.imp (ps_setLc (tt := tT X.K X.mg W0 B Ω gt) (te := tX X.K X.mg W0 B Ω ge) G.hc G.nd hy hyl hsw hi ok hg ht he hs) fun Dn σ H ⟨H0, O0, O, ρ, S, h⟩ => by
    show tLc _ _ _ _ _ σ H _
    refine lc_run (fun i hi => by simpa using List.all_eq_true.mp hsub i hi) (fun i hi => by simpa using List.all_eq_true.mp hown i hi) u ⟨H0, O0, O, ρ, S, ?_⟩
    unfold ySet at h
    cases q : xLc (own.map (·.2)) gi bnd gt ge ρ with
    | ok d =>
      rw [q] at h
      intro v H1 s1 r1
      obtain ⟨O', st, S'⟩ := own_setO (i := i) S s1 r1 hb
      exact h _ O' H1 st S'
    | exc n =>
      rw [q] at h
      intro C H1 m s
      obtain ⟨O', s', S'⟩ := (S.same s).giveAll (noB_of hB)
      exact h C σ O' H1 m ((Step.of_same s).tr s') S'
    | stuck => rw [q] at h; exact h
/-- x = y where y is own and never asked again -/
def yMove (i j : Nat) : YF := fun ρ => match ρ[j]? with
  | some (some d) => .next ((ρ.set j none).set i (some d))
  | _ => .stuck
theorem py_move {i j : Nat} {x y : Str} {pos' py : Pos} (G : Gd X W k) (hj : Ω.contains j = true) (hb : B.contains i = false) (hbj : B.contains j = false) (hij : i ≠ j := by decide) (hi : X.N[i]? = some x) (hx : Loc X.env.scope x) (hjn : X.N[j]? = some y) (hv : Vis X.env.scope y)
    (hs : swapsWith (.Name y py) (some (.Name x pos')) pos.line X.env = pure false := by rfl) (hd : (y == ("__debug__" : Str)) = false := by decide) (hcd : (y == ("__classdict__" : Str)) = false := by decide)
    (hf : X.fn x = true ∨ X.env.scope.names.lookup x = some .local := by first | exact .inl rfl | exact .inr rfl | assumption) (eΩ : i :: (Ω.filter (· ≠ i)).filter (· ≠ j) = Ω' := by rfl) : PY X W fr B Ωl Ω Ω' (.Assign [.Name x pos'] (.Name y py) pos) (yMove i j) :=
  eΩ ▸ PS.imp (ps_set G.nd hi hx (pe_var hjn hv hd hcd) hs hf) fun Dn σ H ⟨H0, O0, O, ρ, S, h⟩ => by
    have hj : j ∈ Ω := by simpa using hj
    have hb : i ∉ B := by simpa using hb
    have hbj : j ∉ B := by simpa using hbj
    unfold yMove at h
    cases er : ρ[j]? with
    | none => rw [er] at h; exact h.elim
    | some o =>
      cases o with
      | none => rw [er] at h; exact h.elim
      | some d =>
        rw [er] at h
        obtain ⟨q, e1, e2, e3, e4⟩ := S.ow j d er hj
        refine ⟨.ref q, e1, h _ O H Step.refl ?_⟩
        have m1 : ∀ {m : Nat} {x : D}, ((ρ.set j none).set i (some d))[m]? = some (some x) → m ≠ i → m ≠ j ∧ ρ[m]? = some (some x) := fun {m x} hh hmi => by
          rw [List.getElem?_set_ne (Ne.symm hmi)] at hh
          by_cases hm : j = m
          · subst hm
            obtain ⟨hl, _⟩ := List.getElem?_eq_some_iff.mp er
            rw [List.getElem?_set_self hl] at hh; cases hh
          · rw [List.getElem?_set_ne hm] at hh
            exact ⟨Ne.symm hm, hh⟩
        have mΩ : ∀ m, m ∈ i :: (Ω.filter (· ≠ i)).filter (· ≠ j) → m ≠ i → m ∈ Ω := fun m hm hne => by
          rcases List.mem_cons.mp hm with z | z
          · exact absurd z hne
          · exact (List.mem_filter.mp (List.mem_filter.mp z).1).1
        have nΩ : ∀ m, m ∉ i :: (Ω.filter (· ≠ i)).filter (· ≠ j) → m ≠ j → m ≠ i ∧ m ∉ Ω := fun m hm hne => by
          have h1 : m ≠ i := fun z => hm (by rw [z]; exact List.mem_cons_self)
          exact ⟨h1, fun z => hm (List.mem_cons_of_mem _ (List.mem_filter.mpr ⟨List.mem_filter.mpr ⟨z, by simpa using h1⟩, by simpa using hne⟩))⟩
        have iself : ∀ {x : D}, ((ρ.set j none).set i (some d))[i]? = some (some x) → x = d ∧ i < σ.length := fun {x} hh => by
          obtain ⟨hl, _⟩ := List.getElem?_eq_some_iff.mp hh
          rw [List.getElem?_set_self (by simpa using hl)] at hh
          cases hh
          exact ⟨rfl, by rw [S.len]; simpa using hl⟩
        refine ⟨S.keep, S.trk0, S.sub, S.trk, fun m x h1 h2 h3 => ?_, fun m x h1 h2 h3 => ?_, fun m x h1 h2 => ?_, fun a ha b hb' hne pp da db h1 h2 h3 => ?_, by simp [S.len]⟩
        · have hmi : m ≠ i := fun z => h2 (by rw [z]; exact List.mem_cons_self)
          obtain ⟨hmj, h1⟩ := m1 h1 hmi
          obtain ⟨_, hmΩ⟩ := nΩ m h2 hmj
          rw [List.getElem?_set_ne (Ne.symm hmi)]
          exact S.fz m x h1 hmΩ h3
        · have hmi : m ≠ i := fun z => hb (z ▸ h3)
          obtain ⟨hmj, h1⟩ := m1 h1 hmi
          obtain ⟨_, hmΩ⟩ := nΩ m h2 hmj
          rw [List.getElem?_set_ne (Ne.symm hmi)]
          exact S.bor m x h1 hmΩ h3
        · by_cases hmi : m = i
          · subst hmi
            obtain ⟨rfl, hl⟩ := iself h1
            exact ⟨q, List.getElem?_set_self hl, e2, e3, e4⟩
          · obtain ⟨hmj, h1⟩ := m1 h1 hmi
            rw [List.getElem?_set_ne (Ne.symm hmi)]
            exact S.ow m x h1 (mΩ m h2 hmi)
        · by_cases hai : a = i
          · subst hai
            have hbi : b ≠ a := Ne.symm hne
            obtain ⟨_, hl⟩ := iself h1
            rw [List.getElem?_set_self hl] at h3
            cases h3
            obtain ⟨hbj', h2⟩ := m1 h2 hbi
            rw [List.getElem?_set_ne (Ne.symm hbi)]
            exact S.dist j hj b (mΩ b hb' hbi) (Ne.symm hbj') _ _ _ er h2 e1
          · obtain ⟨haj, k1⟩ := m1 h1 hai
            rw [List.getElem?_set_ne (Ne.symm hai)] at h3
            by_cases hbi : b = i
            · subst hbi
              obtain ⟨_, hl⟩ := iself h2
              rw [List.getElem?_set_self hl]
              intro z; cases z
              exact S.dist a (mΩ a ha hai) j hj haj _ _ _ k1 er h3 e1
            · obtain ⟨_, k2⟩ := m1 h2 hbi
              rw [List.getElem?_set_ne (Ne.symm hbi)]
              exact S.dist a (mΩ a ha hai) b (mΩ b hb' hbi) hne _ _ _ k1 k2 h3
/-- an expression whose value is dropped -/
def yEx (g : Env → R D) : YF := fun ρ => yB (g ρ) ρ fun _ => .next ρ
theorem py_ex (hB : noB B Ω = true) (he : PX X W B Ω e g) (hs : swapsWith e none pos.line X.env = pure false := by rfl) : PY X W fr B Ωl Ω Ω (.Expr e pos) (yEx g) :=
  PS.imp (ps_expr he hs) fun Dn σ H ⟨H0, O0, O, ρ, S, h⟩ => ⟨H0, O0, O, ρ, S, goodB (ff := fun _ => .next ρ) hB S h fun d v H1 e1 s1 r1 h1 => h1 _ O H1 Step.refl (S.same s1)⟩
def yRet (g : Env → R D) : YF := fun ρ => yB (g ρ) ρ .ret
theorem py_ret (hB : noB B Ω = true) (he : PX X W B Ω e g) : PY X W false B Ωl Ω Ω' (.Return (some e) pos) (yRet g) :=
  PS.imp (ps_ret he) fun Dn σ H ⟨H0, O0, O, ρ, S, h⟩ => ⟨H0, O0, O, ρ, S, goodB (ff := .ret) hB S h fun d v H1 e1 s1 r1 h1 => by
    have h1 : RetG X.K false O0 H0 d Dn.rt := h1
    exact h1 v H1 (Same.tr S.keep s1) (r1.sub S.sub)⟩
theorem py_retO (hB : noB B Ω = true) (he : PO X W B Ω e g) : PY X W true B Ωl Ω Ω' (.Return (some e) pos) (yRet g) :=
  PS.imp (ps_ret he) fun Dn σ H ⟨H0, O0, O, ρ, S, h⟩ => ⟨H0, O0, O, ρ, S, goodB (ff := .ret) hB S h fun d v H1 e1 s1 r1 h1 => by
    have h1 : RetG X.K true O0 H0 d Dn.rt := h1
    obtain ⟨p, rfl, hp, w⟩ := r1
    exact h1 _ H1 (Same.tr S.keep s1) ⟨p, rfl, free_back S.keep hp, w.sub fun a ha => (List.mem_cons.mp ha).elim (fun z => by rw [z]; exact List.mem_cons_self) fun z => List.mem_cons_of_mem _ (S.sub a z)⟩⟩
/-- an own name is handed back -/
theorem py_retV {i : Nat} {x : Str} {pos' : Pos} (ho : Ω.contains i = true) (hN : X.N[i]? = some x) (hv : Vis X.env.scope x) (hd : (x == ("__debug__" : Str)) = false := by decide) (hcd : (x == ("__classdict__" : Str)) = false := by decide) : PY X W true B Ωl Ω Ω' (.Return (some (.Name x pos')) pos) (yRet (xVar i)) :=
  PS.imp (ps_ret (pe_var hN hv hd hcd)) fun Dn σ H ⟨H0, O0, O, ρ, S, h⟩ => by
    have ho : i ∈ Ω := by simpa using ho
    unfold yRet xVar at h
    cases er : ρ[i]? with
    | none => rw [er] at h; exact h.elim
    | some o =>
      cases o with
      | none => rw [er] at h; exact h.elim
      | some d =>
        rw [er] at h
        obtain ⟨q, e1, e2, e3, e4⟩ := S.ow i d er ho
        have h : RetG X.K true O0 H0 d Dn.rt := h
        exact ⟨.ref q, e1, h _ H S.keep ⟨q, rfl, e3, e4.sub fun a ha => (List.mem_cons.mp ha).elim (fun z => by rw [z]; exact e2) (S.sub a)⟩⟩
def yRetN : YF := fun _ => .ret .none
theorem py_retN : PY X W false B Ωl Ω Ω' (.Return none pos) yRetN := PS.imp ps_retN fun Dn σ H ⟨H0, O0, O, ρ, S, h⟩ => by
  have h : RetG X.K false O0 H0 .none Dn.rt := h
  exact h _ H S.keep .non
def yIf (gt : Env → R Bool) (f f' : YF) : YF := fun ρ => yB (gt ρ) ρ fun c => if c = true then f ρ else f' ρ
theorem py_if {a b : List Stmt} (hB : noB B Ω = true) (hc : PTx X W B Ω c gt) (ha : PYs X W fr B Ωl Ω Ω' a f) (hb : PYs X W fr B Ωl Ω Ω' b f') : PY X W fr B Ωl Ω Ω' (.If c a b pos) (yIf gt f f') :=
  PS.imp (ps_if hc ha hb) fun Dn σ H ⟨H0, O0, O, ρ, S, h⟩ => ⟨H0, O0, O, ρ, S, goodB (ff := fun c => if c = true then f ρ else f' ρ) hB S h fun d v H1 e1 s1 r1 h1 => by
    have r1 : v = d := r1
    subst r1
    cases v with
    | true => exact ⟨H0, O0, O, ρ, S.same s1, h1⟩
    | false => exact ⟨H0, O0, O, ρ, S.same s1, h1⟩⟩
/-- a, b = e -/
def yUnp (bnd : D → Env → Option Env) (g : Env → R D) : YF := fun ρ => yB (g ρ) ρ fun d => match bnd d ρ with
  | some ρ' => .next ρ'
  | none => .stuck
theorem py_unp {tgg : TG} {is : List Nat} {bnd : D → Env → Option Env} (hB : noB B Ω = true) (u : TgU X.K B Ω tgg is bnd) (hp : PS X st (tAsg (tX X.K X.mg W B Ω g) tgg)) :
    PY X W fr B Ωl Ω Ω st (yUnp bnd g) :=
  PS.imp hp fun Dn σ H ⟨H0, O0, O, ρ, S, h⟩ => ⟨H0, O0, O, ρ, S, goodB (ff := fun d => match bnd d ρ with | some ρ' => .next ρ' | none => .stuck) hB S h fun d v H1 e1 s1 r1 h1 => by
    cases q : bnd d ρ with
    | none => rw [q] at h1; exact h1.elim
    | some ρ' =>
      rw [q] at h1
      exact u (S.same s1) r1 q fun σ' S' _ _ => h1 σ' O H1 Step.refl S'⟩
/-! ### loops -/
def forL (bnd : D → Env → Option Env) (body : YF) : List D → YF
  | [], ρ => .next ρ
  | d :: ds, ρ => match bnd d ρ with
    | none => .stuck
    | some ρ' => match body ρ' with
      | .next ρ2 => forL bnd body ds ρ2
      | .cnt ρ2 => forL bnd body ds ρ2
      | .brk ρ2 => .next ρ2
      | o => o
def yFor (gi : Env → R (List D)) (bnd : D → Env → Option Env) (body : YF) : YF := fun ρ => yB (gi ρ) ρ fun ds => forL bnd body ds ρ
theorem py_for {tg iter : Expr} {body : List Stmt} {gi : Env → R (List D)} {tgg : TG} {is : List Nat} {bnd : D → Env → Option Env} (G : Gd X W k) (hB : noB B Ω = true) (hi : PIs X W B Ω tg iter gi) (u : TgU X.K B Ω tgg is bnd) (hg : PG X tg tgg) (hb : PYs X W fr B Ω Ω Ω body f)
    (hs : ∀ x, foldedSetIterable iter X.env x = pure x := by intro _; rfl) : PY X W fr B Ωl Ω Ω (.For tg iter body [] pos) (yFor gi bnd f) :=
  PS.imp (ps_for G.hp G.hc hi hg hb hs) fun Dn σ H ⟨H0, O0, O, ρ, S, h⟩ => by
    refine ⟨H0, O0, O, ρ, S, goodB (ff := fun ds => forL bnd f ds ρ) hB S h fun ds J H1 e1 s1 it h1 => ?_⟩
    have S1 := S.same s1
    let P : Nat → St → Hp → Prop := fun i σ' H' => ∃ O' ρ', Step O H1 O' H' ∧ Stt X.K H0 O0 B Ω O' H' σ' ρ' ∧ GoodS X.K X.mg W fr H0 O0 B Ωl Ω O' H' (forL bnd f (ds.drop i) ρ') Dn
    refine ⟨fun i m σ' H' => m = ds.length - i ∧ i ≤ ds.length ∧ P i σ' H', ⟨ds.length, by omega, Nat.zero_le _, O, ρ, Step.refl, S1, by simpa using h1⟩, ?_⟩
    rintro i m σ' H' ⟨rfl, hi, O', ρ', st, S', h'⟩
    obtain ⟨go, stop⟩ := it O' H' S'.keep st S'.trk
    by_cases hlt : i < ds.length
    · have ed : ds[i]? = some ds[i] := List.getElem?_eq_getElem hlt
      obtain ⟨g1, g2⟩ := go i _ ed
      refine .inr ⟨g1, P (i + 1), fun σ2 H2 q => ⟨ds.length - (i + 1), by omega, rfl, hlt, q⟩, fun x H2 y => ?_⟩
      obtain ⟨sy, rx⟩ := g2 x H2 y
      have S2 := S'.same sy
      have h2 := GoodS.step (Step.of_same sy) h'
      have st2 := st.tr (Step.of_same (O := O') sy)
      rw [List.drop_eq_getElem_cons hlt] at h2
      unfold forL at h2
      split at h2
      · exact h2.elim
      rename_i ρ2 eb
      refine u S2 rx eb fun σ3 S3 _ _ => ⟨H0, O0, O', ρ2, S3, ?_⟩
      cases q : f ρ2 with
      | next ρ3 => rw [q] at h2; exact fun σ4 O4 H4 s4 S4 => ⟨O4, ρ3, st2.tr s4, S4, h2.step s4⟩
      | cnt ρ3 => rw [q] at h2; exact fun σ4 O4 H4 s4 S4 => ⟨O4, ρ3, st2.tr s4, S4, h2.step s4⟩
      | brk ρ3 => rw [q] at h2; exact fun σ4 O4 H4 s4 S4 => h2 σ4 O4 H4 s4 S4
      | ret d => rw [q] at h2; exact h2
      | exc n ρ3 => rw [q] at h2; exact h2
      | stuck => rw [q] at h2; exact h2
    · have e : i = ds.length := by omega
      subst e
      rw [List.drop_length] at h'
      exact .inl ⟨stop, h' σ' O' H' Step.refl S'⟩
def whL (gt : Env → R Bool) (body : YF) : Nat → YF
  | 0, _ => .stuck
  | n + 1, ρ => yB (gt ρ) ρ fun c => if c = true then (match body ρ with
      | .next ρ2 => whL gt body n ρ2
      | .cnt ρ2 => whL gt body n ρ2
      | .brk ρ2 => .next ρ2
      | o => o) else .next ρ
def yWh (fu : Env → Nat) (gt : Env → R Bool) (body : YF) : YF := fun ρ => whL gt body (fu ρ) ρ
theorem py_while {body : List Stmt} (fu : Env → Nat) (G : Gd X W k) (hB : noB B Ω = true) (hc : PTx X W B Ω c gt) (hb : PYs X W fr B Ω Ω Ω body f) : PY X W fr B Ωl Ω Ω (.While c body [] pos) (yWh fu gt f) :=
  PS.imp (ps_while G.hp hc hb) fun Dn σ H ⟨H0, O0, O, ρ, S, h⟩ => by
    refine ⟨fun m σ' H' => ∃ O' ρ', Step O H O' H' ∧ Stt X.K H0 O0 B Ω O' H' σ' ρ' ∧ GoodS X.K X.mg W fr H0 O0 B Ωl Ω O' H' (whL gt f m ρ') Dn, ⟨fu ρ, O, ρ, Step.refl, S, h⟩, ?_⟩
    rintro m σ' H' ⟨O', ρ', st, S', h'⟩
    cases m with
    | zero => exact h'.elim
    | succ m =>
      unfold whL at h'
      refine ⟨H0, O0, O', ρ', S', goodB (ff := fun c => if c = true then (match f ρ' with | .next ρ2 => whL gt f m ρ2 | .cnt ρ2 => whL gt f m ρ2 | .brk ρ2 => .next ρ2 | o => o) else .next ρ') hB S' h' fun d v H1 e1 s1 r1 h1 => ?_⟩
      have r1 : v = d := r1
      subst r1
      have S1 := S'.same s1
      have st1 := st.tr (Step.of_same (O := O') s1)
      cases v with
      | false => exact h1 σ' O' H1 Step.refl S1
      | true =>
        simp only [if_true] at h1 ⊢
        refine ⟨fun σ2 H2 => ∃ O2 ρ2, Step O H O2 H2 ∧ Stt X.K H0 O0 B Ω O2 H2 σ2 ρ2 ∧ GoodS X.K X.mg W fr H0 O0 B Ωl Ω O2 H2 (whL gt f m ρ2) Dn, fun σ2 H2 q => ⟨m, Nat.lt_succ_self m, q⟩, H0, O0, O', ρ', S1, ?_⟩
        cases q : f ρ' with
        | next ρ3 => rw [q] at h1; exact fun σ4 O4 H4 s4 S4 => ⟨O4, ρ3, st1.tr s4, S4, h1.step s4⟩
        | cnt ρ3 => rw [q] at h1; exact fun σ4 O4 H4 s4 S4 => ⟨O4, ρ3, st1.tr s4, S4, h1.step s4⟩
        | brk ρ3 => rw [q] at h1; exact fun σ4 O4 H4 s4 S4 => h1 σ4 O4 H4 s4 S4
        | ret d => rw [q] at h1; exact h1
        | exc n ρ3 => rw [q] at h1; exact h1
        | stuck => rw [q] at h1; exact h1
/-! ### changes of own lists -/
def tyL {K : PySem.W.Frag} {H : Hp} {p : Addr} {xs : List V} (h : H p = some (.lst xs)) : tyV K "list" (.ref p) H := .inl ⟨rfl, _, .inl (.inl h)⟩
def yApp (i : Nat) (g : Env → R D) : YF := fun ρ => match ρ[i]? with
  | some (some (.list ds)) => yB (g ρ) ρ fun d => if ds.length < sizeLine then .next (ρ.set i (some (.list (ds ++ [d])))) else .stuck
  | _ => .stuck
theorem py_app {i : Nat} (hB : noB B Ω = true) (ho : Ω.contains i = true) (hb : B.contains i = false) (hp : PE X e (tBM X.K "list" rAppend (tVar i) (tCons (tX X.K X.mg W B Ω g) tNil)))
    (hs : swapsWith e none pos.line X.env = pure false := by rfl) : PY X W fr B Ωl Ω Ω (.Expr e pos) (yApp i g) :=
  PS.imp (ps_expr hp hs) fun Dn σ H ⟨H0, O0, O, ρ, S, h⟩ => by
    have ho : i ∈ Ω := by simpa using ho
    have hb : i ∉ B := by simpa using hb
    unfold yApp at h
    split at h
    · rename_i ds er
      obtain ⟨q, e1, e2, e3, xs, e4, e5⟩ := S.ow i _ er ho
      refine ⟨.ref q, e1, tyL e4, H0, O0, O, ρ, S, goodB (ff := fun d => if ds.length < sizeLine then .next (ρ.set i (some (.list (ds ++ [d])))) else .stuck) hB S h fun d v H1 _ s1 r1 h1 => ?_⟩
      split at h1
      · rename_i hz
        have e41 := s1 _ _ e4
        refine ⟨q, xs, v, rfl, rfl, e41, by rw [e5.length]; exact hz, ?_⟩
        have S1 := S.same s1
        have ge : Ge O H1 (upd H1 q (.lst (xs ++ [v]))) := fun a u ha e => by rw [upd_ne (fun z => ha (by rw [z]; exact e2))]; exact e
        obtain ⟨S2, st⟩ := S1.put (o := .lst (xs ++ [v])) (d := .list (ds ++ [d])) ho hb er e1 ⟨_, upd_same, ((e5.same s1).ge ge).append (RpAll.one (r1.ge ge))⟩
        exact h1 _ O _ st S2
      · exact h1.elim
    · exact h.elim
end
end MV

set_option Elab.async false
set_option linter.all false
set_option maxRecDepth 100000
set_option maxHeartbeats 4000000
namespace MV
open PySem L2

/-! ### a def by its mirror -/
def borS (ks : List Bool) : List Nat := (List.range ks.length).filter fun i => ks.getD i false
def runF (n : Nat) (fr : Bool) (body : YF) (ds : List D) : R D := match body (ds.map some ++ List.replicate (n - ds.length) none) with
  | .ret d => .ok d
  | .next _ => if fr = true then .stuck else .ok .none
  | .exc n _ => .exc n
  | _ => .stuck
theorem rpk_len {K : PySem.W.Frag} {O : List Addr} {H : Hp} : ∀ {ks : List Bool} {vs : List V} {ds : List D}, RpK K O H ks vs ds → vs.length = ks.length ∧ ds.length = ks.length
  | [], [], [], _ => ⟨rfl, rfl⟩
  | b :: ks, v :: vs, d :: ds, h => by obtain ⟨h1, h2⟩ := rpk_len h.2; simp [h1, h2]
  | [], v :: vs, _, h => h.elim
  | [], [], d :: ds, h => h.elim
  | b :: ks, [], _, h => h.elim
  | b :: ks, v :: vs, [], h => h.elim
theorem rpk_get {K : PySem.W.Frag} {O : List Addr} {H : Hp} : ∀ {ks : List Bool} {vs : List V} {ds : List D} {i : Nat} {d : D}, RpK K O H ks vs ds → ds[i]? = some d → ∃ v, vs[i]? = some v ∧ (if ks.getD i false = true then Rs K O H H v d else Rp K O H v d)
  | [], [], [], i, d, _, e => by simp at e
  | b :: ks, v :: vs, d :: ds, 0, _, h, e => by simp at e; subst e; exact ⟨v, rfl, by simpa using h.1⟩
  | b :: ks, v :: vs, d :: ds, i + 1, _, h, e => by simpa using rpk_get h.2 (by simpa using e)
  | [], v :: vs, _, _, _, h, _ => h.elim
  | [], [], d :: ds, _, _, h, _ => h.elim
  | b :: ks, [], _, _, _, h, _ => h.elim
  | b :: ks, v :: vs, [], _, _, h, _ => h.elim
theorem start_get {N : List Str} {vs : List V} {i : Nat} {v : V} (h : vs[i]? = some v) : (start N vs)[i]? = some (some v) := by
  obtain ⟨hl, _⟩ := List.getElem?_eq_some_iff.mp h
  unfold L2.start
  rw [List.getElem?_append_left (by simpa using hl), List.getElem?_map, h]; rfl
theorem startE_get {ds : List D} {n i : Nat} {d : D} (h : (ds.map some ++ List.replicate n none)[i]? = some (some d)) : ds[i]? = some d := by
  by_cases hl : i < ds.length
  · rw [List.getElem?_append_left (by simpa using hl), List.getElem?_map] at h
    cases e : ds[i]? with
    | none => rw [e] at h; cases h
    | some x => rw [e] at h; cases h; rfl
  · rw [List.getElem?_append_right (by simpa using hl), List.getElem?_replicate] at h
    split at h <;> cases h
theorem stt_start {K : PySem.W.Frag} {O : List Addr} {H : Hp} {N : List Str} {ks : List Bool} {vs : List V} {ds : List D} (ht : ∀ a ∈ O, H a ≠ none) (h : RpK K O H ks vs ds) : Stt K H O (borS ks) [] O H (start N vs) (ds.map some ++ List.replicate (N.length - ds.length) none) where
  keep := Same.refl
  trk0 := ht
  sub := fun _ h => h
  trk := ht
  fz := fun i d e h1 h2 => by
    have e' := startE_get e
    obtain ⟨v, ev, r⟩ := rpk_get h e'
    refine ⟨v, start_get ev, ?_⟩
    cases q : ks.getD i false with
    | false => rw [q] at r; simpa using r
    | true =>
      obtain ⟨hl, _⟩ := List.getElem?_eq_some_iff.mp e'
      exact absurd (List.mem_filter.mpr ⟨List.mem_range.mpr (by rw [← (rpk_len h).2]; exact hl), q⟩) h2
  bor := fun i d e h1 h2 => by
    have e' := startE_get e
    obtain ⟨v, ev, r⟩ := rpk_get h e'
    refine ⟨v, start_get ev, ?_⟩
    have q : ks.getD i false = true := (List.mem_filter.mp h2).2
    rw [q] at r; simpa using r
  ow := fun i d e h => by simp at h
  dist := fun i h => by simp at h
  len := by
    obtain ⟨h1, h2⟩ := rpk_len h
    unfold L2.start
    simp [h1, h2]
section
variable {P : Program} {w : World} {K : PySem.W.Frag} {mg : Str → Option Value} {base : Heap}
abbrev WD (E : XK) : WX := fun cls d _ H => E cls d H
theorem fn_ok {x qual : Str} {st : Stmt} {f : Addr} {fd : FuncData} {N ps : List Str} {k : Nat} (F : Fun K x qual st f fd) (S : FnScope N ps (defScope st)) (ks : List Bool) (fr : Bool) (body : YF) {Ωl Ω' : List Nat} (hk : ks.length = ps.length)
    (h : ∀ (cdv : Value) (A : Around) (outer : List PySem.Env) (s : Shared) (H : Hp) (E : XK), Gd (cxOf (L2.CX P w) P w K mg base N qual (defScope st) f cdv A outer s H E) (WD E) k →
      PYs (cxOf (L2.CX P w) P w K mg base N qual (defScope st) f cdv A outer s H E) (WD E) fr (borS ks) Ωl [] Ω' (defBody st) body) :
    FnOk P w K mg base (L2.CX P w) (k + 1) f fd ps (spM K mg ks fr (runF N.length fr body)) := by
  refine F.okX S (fun vs H Q E ⟨O, ds, ht, r, _⟩ => by rw [(rpk_len r).1, hk]) fun cdv A outer s H vs Q E hr ⟨O, ds, ht, r, q⟩ => ?_
  refine ⟨_, h cdv A outer s H E ⟨takes_of rfl rfl rfl rfl, passes_of rfl, rfl, S.nd, hr⟩, H, O, O, _, stt_start ht r, ?_⟩
  have hX : (cxOf (L2.CX P w) P w K mg base N qual (defScope st) f cdv A outer s H E).K = K := rfl
  unfold runF at q
  cases e : body (ds.map some ++ List.replicate (N.length - ds.length) none) with
  | next ρ =>
    rw [e] at q
    cases fr with
    | true => exact q.elim
    | false => exact fun σ' O' H' _ S' => (show RetG K false O H .none Q from q) _ H' S'.keep .non
  | ret d => rw [e] at q; exact q
  | exc n ρ =>
    rw [e] at q
    exact fun C σ' O' H' m _ S' => q C H' m S'.keep
  | brk ρ => rw [e] at q; exact q.elim
  | cnt ρ => rw [e] at q; exact q.elim
  | stuck => rw [e] at q; exact q.elim
end
/-! ### the law's end -/
def noLists (K : PySem.W.Frag) : Bool := K.all fun p => !(p.2.cls == .type "list")
theorem lookup_mem {K : PySem.W.Frag} {a : Addr} {o : Obj} (h : K.lookup a = some o) : (a, o) ∈ K := by
  induction K with
  | nil => cases h
  | cons p K ih =>
    rw [List.lookup_cons] at h
    split at h
    · rename_i e
      have e : a = p.1 := by simpa using e
      cases h; rw [e]; exact List.mem_cons_self
    · exact List.mem_cons_of_mem _ (ih h)
theorem rd_of_sq {K : PySem.W.Frag} {H : Hp} {a : Addr} {xs : List V} (hn : noLists K = true) (h : SqL K H a xs) : Rd H a (.lst xs) := by
  rcases h with h | ⟨o, its, n, hl, hc, _⟩
  · exact h
  · have := List.all_eq_true.mp hn (a, o) (lookup_mem hl)
    simp [hc] at this
theorem law_walk {l : PySem.W.OpenLaw} {k : Nat} {q : Program} {loose : List Str} {XP : (Str → Option Value) → Heap → Prop} {YP : World → Heap → Prop} {d : DefRec} {K : Params → PySem.W.Frag} {x : Str} (g : List D → R D)
    (hn : l.most = some 63) (hdf : d.params.defaults = []) (hr : Room k callerA) (hY : ∀ (w : World) (h : Heap), YP w h → (K w.params).In h) (nl : ∀ (w : World) (h : Heap), (K w.params).In h → noLists (K w.params) = true) (hg : ∀ ns : List Int, ns.length ≤ 63 → g [.list (ns.map .int)] = .ok (.bool true))
    (F : ∀ (w : World) (mg : Str → Option Value) (fa : Addr) (h : Heap), (K w.params).In h → h.Ns mainGlobals mg → mg d.name = some (.ref fa) →
      ∃ fd : FuncData, (∀ (s : Shared) (u : Value), BindsTo s fd ⟨[u], []⟩ [(x, u)]) ∧ ∀ base : Heap, (K w.params).In base → base.Ns mainGlobals mg → FnOk l.prog w (K w.params) mg base (L2.CX l.prog w) k fa fd [x] (spM (K w.params) mg [true] false g)) :
    PySem.W.WalkO q loose XP YP l.row.toRowW d [] (fun f vs => PySem.call f vs) := by
  refine L2.walk_of (l := l) (n := 63) (k := k) (x := x) (CX := fun w => L2.CX l.prog w) (K := K)
    (sp := fun w => fun vs H Q E => ∃ a ns, vs = [.ref a] ∧ ns.length ≤ 63 ∧ SqL (K w.params) H a (ns.map V.int) ∧ ∀ H', Q (.bl true) H') hn (by decide) hdf hr hY (fun w mg fa h KX G hmg => ?_)
    (fun w H a ns hl _ hS => ⟨a, ns, rfl, hl, hS, fun _ => rfl⟩) (fun w H s e s' z => by obtain ⟨_, _, _, _, _, _, _, _, _, _, _, _, z⟩ := z; exact z)
  obtain ⟨fd, hb, hF⟩ := F w mg fa h KX G hmg
  refine ⟨fd, hb, fun base k1 k2 => (hF base k1 k2).imp fun vs H Q E ⟨a, ns, e, hl, hS, q⟩ => ?_⟩
  subst e
  refine ⟨[], [.list (ns.map .int)], by simp, ⟨by rw [if_pos rfl]; exact Or.inr ⟨a, rfl, _, rd_of_sq (nl w h KX) hS, ints_rp ns⟩, True.intro⟩, ?_⟩
  rw [hg ns hl]
  intro v H' _ r
  cases r
  exact q H'
end MV

set_option Elab.async false
set_option linter.all false
set_option maxRecDepth 100000
set_option maxHeartbeats 4000000
namespace MV
open PySem L2

/-- a def of the text: where it stands, what it keeps -/
structure DefOk (P : Program) (w : World) (K : PySem.W.Frag) (mg : Str → Option Value) (base : Heap) (nm : Str) (f : Addr) (fd : FuncData) (ps : List Str) (ks : List Bool) (fr : Bool) (g : List D → R D) (j : Nat) : Prop where
  F : FnOk P w K mg base (L2.CX P w) j f fd ps (spM K mg ks fr g)
  m : mg nm = some (.ref f)
  k : PySem.W.keepIn K (.ref f) = true
  b : Binds K fd ps []
section
variable {X : Cx} {W : WX} {B Ω : List Nat} {k : Nat} {a b c e o : Expr} {es : List Expr} {ga gb gc : Env → R D} {gs : Env → R (List D)} {ks : List Bool} {pos p apos : Pos} {nm : Str} {f : Addr} {fd : FuncData} {ps : List Str} {g : List D → R D} {j : Nat}
theorem px_c (G : Gd X W k) (C : DefOk X.prog X.w X.K X.mg X.base nm f fd ps ks false g j) (hj : Nat.ble j k = true) (hg : Gl X nm) (ha : PAk X W B Ω ks (e :: es) gs) (hdb : (nm == ("__debug__" : Str)) = false := by decide) (he : starEach (e :: es) X.env = (false, eval e X.env) :: starEach es X.env := by rfl) (hpl : (backTo pos (starEach es X.env)).any (·.1) = false := by rfl) :
    PX X W B Ω (.Call (.Name nm p) (e :: es) [] pos) (xCall g gs) := px_call G C.F (Nat.le_of_ble_eq_true hj) hg C.m C.k C.b ha hdb he hpl
theorem po_c (G : Gd X W k) (C : DefOk X.prog X.w X.K X.mg X.base nm f fd ps ks true g j) (hj : Nat.ble j k = true) (hg : Gl X nm) (ha : PAk X W B Ω ks (e :: es) gs) (hdb : (nm == ("__debug__" : Str)) = false := by decide) (he : starEach (e :: es) X.env = (false, eval e X.env) :: starEach es X.env := by rfl) (hpl : (backTo pos (starEach es X.env)).any (·.1) = false := by rfl) :
    PO X W B Ω (.Call (.Name nm p) (e :: es) [] pos) (xCall g gs) := po_call G C.F (Nat.le_of_ble_eq_true hj) hg C.m C.k C.b ha hdb he hpl
theorem px_gint {x : Str} {i : Int} (hg : Gl X x) (h : ∃ t, X.mg x = some (.int i t)) (hd : (x == ("__debug__" : Str)) = false := by decide) : PX X W B Ω (.Name x pos) (xC (.int i)) := by
  obtain ⟨t, h⟩ := h
  exact PE.imp (pe_glob (v := .int i) hg h ⟨t, rfl⟩ hd) fun _ _ _ ⟨_, _, _, _, _, h⟩ => h.use (.int i)
theorem px_gstr {x z : Str} (hg : Gl X x) (h : ∃ t, X.mg x = some (.str z t)) (hs : PyData.strOk z = true := by decide +kernel) (hd : (x == ("__debug__" : Str)) = false := by decide) : PX X W B Ω (.Name x pos) (xC (.str z)) := by
  obtain ⟨t, h⟩ := h
  exact PE.imp (pe_glob (v := .str z) hg h ⟨t, rfl⟩ hd) fun _ _ _ ⟨_, _, _, _, _, h⟩ => h.use (.str z hs)

/-! ### zip of two lists, of two tuples -/
def zipD : List D → R (List D)
  | [.list xs, .list ys] => .ok ((xs.zip ys).map fun p => .tuple [p.1, p.2])
  | [.tuple xs, .tuple ys] => .ok ((xs.zip ys).map fun p => .tuple [p.1, p.2])
  | _ => .stuck
def xZip (f : List D → R (List D)) (gs : Env → R (List D)) : Env → R (List D) := fun ρ => (gs ρ).bind f
theorem zip_get {xs ys : List D} {i : Nat} {d : D} (h : ((xs.zip ys).map fun p => PyData.tuple [p.1, p.2])[i]? = some d) : ∃ x y, xs[i]? = some x ∧ ys[i]? = some y ∧ d = .tuple [x, y] := by
  rw [List.getElem?_map] at h
  cases e : (xs.zip ys)[i]? with
  | none => rw [e] at h; cases h
  | some q =>
    rw [e] at h; cases h
    obtain ⟨h1, h2⟩ := List.getElem?_zip_eq_some.mp e
    exact ⟨_, _, h1, h2, rfl⟩
theorem sqL_inj_ok {K : PySem.W.Frag} {H : Hp} {a : Addr} {xs : List V} (h : Rd H a (.lst xs)) : SqL K H a xs := .inl h
theorem pis_zip {elts : List Expr} {kk : Nat} {tpos : Pos} (hg : Gl X "zip") (hm : X.mg "zip" = none) (ha : PAf X W B Ω [a, b] gs)
    (hs : starEach [a, b] X.env = (false, eval a X.env) :: starEach [b] X.env := by rfl) (hpl : (backTo pos (starEach [b] X.env)).any (·.1) = false := by rfl) : PIs X W B Ω (.Tuple elts kk tpos) (.Call (.Name "zip" p) [a, b] [] pos) (xZip zipD gs) :=
  PI.imp (RZ.pi_zipA hg hm ha hs hpl) fun σ H Q ⟨H0, O0, O, ρ, S, h⟩ => ⟨H0, O0, O, ρ, S, Good.bind (f := zipD) h fun ds vs H1 e s1 r1 h1 => by
    unfold zipD at h1
    split at h1
    · rename_i xs ys
      cases r1 with
      | cons r1 r2 =>
        cases r2 with
        | cons r2 r3 =>
          cases r3
          cases r1 with
          | lst a1 a2 =>
            cases r2 with
            | lst b1 b2 =>
              refine ⟨_, _, _, _, rfl, .inl ⟨.inl a1.2, .inl b1.2, h1.use fun O' H' _ st ht => ?_⟩⟩
              have ra := (ge_rd st.ge _ _ a1.1 a1.2).2
              have rb := (ge_rd st.ge _ _ b1.1 b1.2).2
              refine ⟨fun i d ed => ?_, _, _, .inl ra, .inl rb, ?_⟩
              · obtain ⟨x, y, ex, ey, rfl⟩ := zip_get ed
                obtain ⟨v, ev, rv⟩ := a2.get ex
                obtain ⟨u, eu, ru⟩ := b2.get ey
                refine ⟨⟨_, _, v, u, .inl ra, .inl rb, ev, eu⟩, fun x' H2 ⟨T, v', u', e1, e2, e3, e4, e5⟩ => ?_⟩
                have k1 := e4 _ (.inl ra)
                have k2 := e5 _ (.inl rb)
                rw [ev] at k1; cases k1
                rw [eu] at k2; cases k2
                subst e1 e3
                exact ⟨same_upd e2, new_tup ht e2 (.cons (rv.step st) (.cons (ru.step st) .nil))⟩
              · rw [List.length_map, List.length_zip, a2.length, b2.length]; omega
    · rename_i xs ys
      cases r1 with
      | cons r1 r2 =>
        cases r2 with
        | cons r2 r3 =>
          cases r3
          cases r1 with
          | tup a1 a2 =>
            cases r2 with
            | tup b1 b2 =>
              refine ⟨_, _, _, _, rfl, .inr ⟨.inl a1.2, .inl b1.2, h1.use fun O' H' _ st ht => ?_⟩⟩
              have ra := (ge_rd st.ge _ _ a1.1 a1.2).2
              have rb := (ge_rd st.ge _ _ b1.1 b1.2).2
              refine ⟨fun i d ed => ?_, _, _, .inl ra, .inl rb, ?_⟩
              · obtain ⟨x, y, ex, ey, rfl⟩ := zip_get ed
                obtain ⟨v, ev, rv⟩ := a2.get ex
                obtain ⟨u, eu, ru⟩ := b2.get ey
                refine ⟨⟨_, _, v, u, .inl ra, .inl rb, ev, eu⟩, fun x' H2 ⟨T, v', u', e1, e2, e3, e4, e5⟩ => ?_⟩
                have k1 := e4 _ (.inl ra)
                have k2 := e5 _ (.inl rb)
                rw [ev] at k1; cases k1
                rw [eu] at k2; cases k2
                subst e1 e3
                exact ⟨same_upd e2, new_tup ht e2 (.cons (rv.step st) (.cons (ru.step st) .nil))⟩
              · rw [List.length_map, List.length_zip, a2.length, b2.length]; omega
    · exact h1.elim⟩

/-! ### methods of texts -/
def m0D (f : D → R D) (g : Env → R D) : Env → R D := x1 f g
def upperD : D → R D
  | .str z => okIf (decide (z.length ≤ 5592405) && PyData.strOk (Txt.upper z)) (.str (Txt.upper z))
  | _ => .stuck
theorem px_upper (ho : PX X W B Ω o ga) (hbase : attributeBase o "upper" X.env (eval o X.env) = eval o X.env := by rfl) (hline : (apos.endLine == pos.line) = true := by rfl) : PX X W B Ω (.Call (.Attribute o "upper" apos) [] [] pos) (x1 upperD ga) :=
  PE.imp (pe_upper ho hbase hline) fun σ H Q ⟨H0, O0, O, ρ, S, h⟩ => ⟨H0, O0, O, ρ, S, Good.bind (f := upperD) h fun d v H1 e s1 r1 h1 => by
    cases d <;> first | exact h1.elim | skip
    cases r1
    obtain ⟨z, ez⟩ := h1.ok_of fun n hn => by simp [upperD] at hn
    rw [ez] at h1
    obtain ⟨hz, rfl⟩ := okIf_ok ez
    simp only [Bool.and_eq_true, decide_eq_true_eq] at hz
    exact ⟨⟨_, rfl⟩, _, rfl, rfl, hz.1, h1.use (.str _ hz.2)⟩⟩
def strsOf : List D → Option (List Str)
  | [] => some []
  | .str i :: ds => (strsOf ds).map (i :: ·)
  | _ :: _ => none
@[simp] theorem strsOf_map (ns : List Str) : strsOf (ns.map .str) = some ns := by
  induction ns with
  | nil => rfl
  | cons n ns ih => simp [strsOf, ih]
theorem strsOf_eq : ∀ {ds : List D} {ns : List Str}, strsOf ds = some ns → ds = ns.map .str
  | [], ns, h => by simp [strsOf] at h; subst h; rfl
  | d :: ds, ns, h => by
    cases d <;> simp only [strsOf] at h <;> try cases h
    obtain ⟨ms, e, rfl⟩ := Option.map_eq_some_iff.mp h
    rw [strsOf_eq e]; rfl
theorem rp_strs {K : PySem.W.Frag} {O : List Addr} {H : Hp} : ∀ {ns : List Str} {vs : List V}, RpAll K O H vs (ns.map .str) → vs = ns.map .str ∧ ∀ z ∈ ns, PyData.strOk z = true
  | [], vs, h => by cases h; exact ⟨rfl, by simp⟩
  | n :: ns, vs, h => by
    cases h with
    | cons h1 h2 =>
      cases h1 with
      | str _ hs =>
        obtain ⟨e, q⟩ := rp_strs h2
        exact ⟨by rw [e]; rfl, fun z hz => (List.mem_cons.mp hz).elim (fun e => e ▸ hs) (q z)⟩
def joinS (a : Str) : D → R D
  | .list ds => match strsOf ds with
    | some ys => okIf (decide ((ys.map (·.length)).sum + ys.length * a.length ≤ 16777216) && PyData.strOk (Txt.join a ys)) (.str (Txt.join a ys))
    | none => .stuck
  | _ => .stuck
/-- a method of a text with one argument -/
def xM1 (f : Str → D → R D) (ga gb : Env → R D) : Env → R D := fun ρ => (ga ρ).bind fun x => match x with
  | .str z => (gb ρ).bind (f z)
  | _ => .stuck
theorem m1_run {r : V → List V → Hp → VK → Prop} {f : Str → D → R D} (hn : ∀ z y n, f z y ≠ .exc n) (hr : ∀ (O : List Addr) (H : Hp) (z : Str) (u : V) (y d : D) (Q : VK), (∀ a ∈ O, H a ≠ none) → PyData.strOk z = true → Rs X.K O H H u y → f z y = .ok d → (∀ v H', Same H H' → Rp X.K O H' v d → Q v H') → r (.str z) [u] H Q)
    {σ : St} {H : Hp} {Q : VK} (h : tX X.K X.mg W B Ω (xM1 f ga gb) σ H Q) : tM1 r (tX X.K X.mg W B Ω ga) (tB X.K X.mg W B Ω gb) σ H Q := by
  obtain ⟨H0, O0, O, ρ, S, h⟩ := h
  refine ⟨H0, O0, O, ρ, S, Good.bind h fun d v H1 e1 s1 r1 h1 => ?_⟩
  cases d <;> first | exact h1.elim | skip
  cases r1 with
  | str _ hz =>
    refine ⟨⟨_, rfl⟩, H0, O0, O, ρ, S.same s1, Good.bind h1 fun y u H2 e2 s2 r2 h2 => ?_⟩
    obtain ⟨w, ew⟩ := h2.ok_of (hn _ _)
    rw [ew] at h2
    exact hr O H2 _ u y w Q ((S.same s1).same s2).trk hz r2 ew h2
theorem px_join (ho : PX X W B Ω o ga) (he : PB X W B Ω e gb) (hs : starEach [e] X.env = [(false, eval e X.env)] := by rfl) (hbase : attributeBase o "join" X.env (eval o X.env) = eval o X.env := by rfl) (hline : (apos.endLine == pos.line) = true := by rfl) :
    PX X W B Ω (.Call (.Attribute o "join" apos) [e] [] pos) (xM1 joinS ga gb) :=
  PE.imp (pe_join ho he hs hbase hline) fun σ H Q h => m1_run (f := joinS) (fun z y n => by cases y <;> simp only [joinS] <;> (try split) <;> simp) (fun O H z u y d Q ht hz hy e q => by
    cases y <;> simp only [joinS] at e <;> try cases e
    split at e
    · rename_i ys hys
      obtain ⟨c, rfl⟩ := okIf_ok e
      simp only [Bool.and_eq_true, decide_eq_true_eq] at c
      obtain rfl := strsOf_eq hys
      obtain ⟨p, xs, rfl, q1, q2⟩ := hy.lst
      obtain ⟨rfl, _⟩ := rp_strs q2
      exact ⟨_, _, _, rfl, rfl, .inl (.inl q1), c.1, q _ H Same.refl (.str _ c.2)⟩
    · cases e) h
/-! ### own lists changed -/
def ySub (i : Nat) (gi ge : Env → R D) : YF := fun ρ => yB (ge ρ) ρ fun d => match ρ[i]? with
  | some (some (.list ds)) => yB (gi ρ) ρ fun j => match j with
    | .int j => match ixN ds.length j with
      | some m => .next (ρ.set i (some (.list (ds.set m d))))
      | none => .stuck
    | _ => .stuck
  | _ => .stuck
theorem py_sub {fr : Bool} {Ωl : List Nat} {i : Nat} {x : Str} {xpos spos pos : Pos} {ix : Expr} {gi ge : Env → R D} (hB : noB B Ω = true) (ho : Ω.contains i = true) (hb : B.contains i = false)
    (hp : PS X (.Assign [.Subscript (.Name x xpos) ix spos] e pos) (tAsg (tX X.K X.mg W B Ω ge) (gSub (tVar i) (tX X.K X.mg W B Ω gi) rSetL))) :
    PY X W fr B Ωl Ω Ω (.Assign [.Subscript (.Name x xpos) ix spos] e pos) (ySub i gi ge) :=
  PS.imp hp fun Dn σ H ⟨H0, O0, O, ρ, S, h⟩ => ⟨H0, O0, O, ρ, S, goodB hB S h fun d v H1 e1 s1 r1 h1 => by
    have ho : i ∈ Ω := by simpa using ho
    have hb : i ∉ B := by simpa using hb
    have S1 := S.same s1
    split at h1
    · rename_i ds er
      obtain ⟨q, e1, e2, e3, xs, e4, e5⟩ := S1.ow i _ er ho
      refine ⟨.ref q, e1, H0, O0, O, ρ, S1, goodB hB S1 h1 fun jd jv H2 ej s2 r2 h2 => ?_⟩
      cases jd <;> first | exact h2.elim | skip
      rename_i jj
      cases r2
      have h2 : GoodS X.K X.mg W fr H0 O0 B Ωl Ω O H2 (match ixN ds.length jj with | some m => .next (ρ.set i (some (.list (ds.set m d)))) | none => .stuck) Dn := h2
      cases hm : ixN ds.length jj with
      | some m =>
        rw [hm] at h2
        have e42 := s2 _ _ e4
        refine ⟨q, xs, _, m, rfl, rfl, e42, by rw [e5.length]; exact hm, ?_⟩
        have S2 := S1.same s2
        have ge : Ge O H2 (upd H2 q (.lst (xs.set m v))) := fun a u ha e => by rw [upd_ne (fun z => ha (by rw [z]; exact e2))]; exact e
        obtain ⟨S3, st⟩ := S2.put (o := .lst (xs.set m v)) (d := .list (ds.set m d)) ho hb er e1 ⟨_, upd_same, ((e5.same s2).ge ge).set m ((r1.same s2).ge ge)⟩
        exact h2 _ O _ st S3
      | none => rw [hm] at h2; exact h2.elim
    · exact h1.elim⟩
end
end MV

set_option Elab.async false
set_option linter.all false
set_option maxRecDepth 100000
set_option maxHeartbeats 4000000
namespace MV
open PySem L2
/-! ### reckoning with mirrors -/
def Out.seq (o : Out) (g : YF) : Out := match o with
  | .next ρ' => g ρ'
  | o => o
section
variable {f g : YF} {ρ ρ' : Env} {d e : D} {n : Str} {gt ta tb : Env → R Bool} {ga gb gc : Env → R D} {gs : Env → R (List D)} {i : Nat}
@[simp] theorem Out.seq_next : (Out.next ρ').seq g = g ρ' := (rfl)
@[simp] theorem Out.seq_ret : (Out.ret d).seq g = .ret d := (rfl)
@[simp] theorem Out.seq_brk : (Out.brk ρ').seq g = .brk ρ' := (rfl)
@[simp] theorem Out.seq_cnt : (Out.cnt ρ').seq g = .cnt ρ' := (rfl)
@[simp] theorem Out.seq_exc : (Out.exc n ρ').seq g = .exc n ρ' := (rfl)
@[simp] theorem Out.seq_stuck : (Out.stuck).seq g = .stuck := (rfl)
@[simp] theorem ySeq_e : ySeq f g ρ = (f ρ).seq g := by unfold ySeq Out.seq; rfl
@[simp] theorem yNil_e : yNil ρ = .next ρ := (rfl)
@[simp] theorem yPass_e : yPass ρ = .next ρ := (rfl)
@[simp] theorem yBrk_e : yBrk ρ = .brk ρ := (rfl)
@[simp] theorem yCnt_e : yCnt ρ = .cnt ρ := (rfl)
@[simp] theorem ySet_e : ySet i ga ρ = yB (ga ρ) ρ fun d => .next (ρ.set i (some d)) := (rfl)
@[simp] theorem yEx_e : yEx ga ρ = yB (ga ρ) ρ fun _ => .next ρ := (rfl)
@[simp] theorem yRet_e : yRet ga ρ = yB (ga ρ) ρ .ret := (rfl)
@[simp] theorem yRetN_e : yRetN ρ = .ret .none := (rfl)
@[simp] theorem yIf_e : yIf gt f g ρ = yB (gt ρ) ρ fun c => if c = true then f ρ else g ρ := (rfl)
@[simp] theorem yUnp_e {bnd : D → Env → Option Env} : yUnp bnd ga ρ = yB (ga ρ) ρ fun d => match bnd d ρ with | some ρ' => .next ρ' | none => .stuck := (rfl)
@[simp] theorem yFor_e {gi : Env → R (List D)} {bnd : D → Env → Option Env} : yFor gi bnd f ρ = yB (gi ρ) ρ fun ds => forL bnd f ds ρ := (rfl)
@[simp] theorem bName_e : bName i d ρ = some (ρ.set i (some d)) := (rfl)
@[simp] theorem bTup_e {is : List Nat} {ds : List D} : bTup is (.tuple ds) ρ = setAll ρ is ds := (rfl)
@[simp] theorem setAll_nil : setAll ρ [] [] = some ρ := (rfl)
@[simp] theorem setAll_cons {is : List Nat} {ds : List D} : setAll ρ (i :: is) (d :: ds) = setAll (ρ.set i (some d)) is ds := (rfl)
@[simp] theorem xVar_e : xVar i ρ = match ρ[i]? with | some (some d) => .ok d | _ => .stuck := (rfl)
@[simp] theorem xC_e : xC d ρ = .ok d := (rfl)
@[simp] theorem x1_e {h : D → R D} : x1 h ga ρ = (ga ρ).bind h := (rfl)
@[simp] theorem x2_e {h : D → D → R D} : x2 h ga gb ρ = (ga ρ).bind fun x => (gb ρ).bind fun y => h x y := (rfl)
@[simp] theorem x3_e {h h' : D → D → R D} : x3 h h' ga gb gc ρ = (ga ρ).bind fun x => (gb ρ).bind fun y => (h x y).bind fun z => match z with | .bool true => (gc ρ).bind fun w => h' y w | .bool false => .ok (.bool false) | _ => .stuck := (rfl)
@[simp] theorem xT_e : xT ga ρ = (ga ρ).bind asB := (rfl)
@[simp] theorem asB_e {b : Bool} : asB (.bool b) = .ok b := (rfl)
@[simp] theorem bAnd_e : bAnd ta tb ρ = (ta ρ).bind fun c => if c = true then tb ρ else .ok false := (rfl)
@[simp] theorem bOr_e : bOr ta tb ρ = (ta ρ).bind fun c => if c = true then .ok true else tb ρ := (rfl)
@[simp] theorem bNot_e : bNot ta ρ = (ta ρ).bind fun c => .ok (!c) := (rfl)
@[simp] theorem xAnd_e : xAnd ga gb ρ = (ga ρ).bind fun x => match x with | .bool true => gb ρ | .bool false => .ok (.bool false) | _ => .stuck := (rfl)
@[simp] theorem xOr_e : xOr ga gb ρ = (ga ρ).bind fun x => match x with | .bool true => .ok (.bool true) | .bool false => gb ρ | _ => .stuck := (rfl)
@[simp] theorem xIf_e : xIf ta ga gb ρ = (ta ρ).bind fun c => if c = true then ga ρ else gb ρ := (rfl)
@[simp] theorem xNoP_e : xNoP ρ = .ok none := (rfl)
@[simp] theorem xP_e : xP ga ρ = (ga ρ).bind asI := (rfl)
@[simp] theorem asI_e {j : Int} : asI (.int j) = .ok (some j) := (rfl)
@[simp] theorem xSl_e {gl gh : Env → R (Option Int)} : xSl ga gl gh ρ = (ga ρ).bind fun x => (gl ρ).bind fun l => (gh ρ).bind fun h => slD x l h := (rfl)
@[simp] theorem xSlL_e {gl gh : Env → R (Option Int)} : xSlL ga gl gh ρ = (ga ρ).bind fun x => (gl ρ).bind fun l => (gh ρ).bind fun h => slL x l h := (rfl)
@[simp] theorem aNil_e : aNil ρ = .ok [] := (rfl)
@[simp] theorem aCons_e : aCons ga gs ρ = (ga ρ).bind fun d => (gs ρ).bind fun ds => .ok (d :: ds) := (rfl)
@[simp] theorem xTup_e : xTup gs ρ = (gs ρ).bind mkTup := (rfl)
@[simp] theorem xLst_e : xLst gs ρ = (gs ρ).bind mkLst := (rfl)
@[simp] theorem xCall_e {h : List D → R D} : xCall h gs ρ = (gs ρ).bind h := (rfl)
@[simp] theorem xSeq_e : xSeq ga ρ = (ga ρ).bind seqD := (rfl)
@[simp] theorem seqD_l {ds : List D} : seqD (.list ds) = .ok ds := (rfl)
@[simp] theorem seqD_t {ds : List D} : seqD (.tuple ds) = .ok ds := (rfl)
@[simp] theorem xRng_e {h : List D → R (List D)} : xRng h gs ρ = (gs ρ).bind h := (rfl)
@[simp] theorem xZip_e {h : List D → R (List D)} : xZip h gs ρ = (gs ρ).bind h := (rfl)
@[simp] theorem xLc_e {ws : List Nat} {gi : Env → R (List D)} {bnd : D → Env → Option Env} : xLc ws gi bnd gt ga ρ = (gi ρ).bind fun ds => if ds.length ≤ sizeLine then (lcL bnd gt ga (wipeE ρ ws) ds).bind fun ys => .ok (.list ys) else .stuck := (rfl)
@[simp] theorem tYesX_e : tYesX ρ = .ok true := (rfl)
@[simp] theorem wipeE_nil : wipeE ρ [] = ρ := (rfl)
@[simp] theorem wipeE_cons {w : Nat} {ws : List Nat} : wipeE ρ (w :: ws) = (wipeE ρ ws).set w none := (rfl)
@[simp] theorem yApp_e : yApp i ga ρ = match ρ[i]? with | some (some (.list ds)) => yB (ga ρ) ρ fun d => if ds.length < sizeLine then .next (ρ.set i (some (.list (ds ++ [d])))) else .stuck | _ => .stuck := (rfl)
@[simp] theorem okIf_t : okIf true d = .ok d := (rfl)
theorem okIf_p {p : Prop} [Decidable p] (h : p) : okIf (decide p) d = .ok d := by rw [decide_eq_true h]; rfl
@[simp] theorem addD_ii {a b : Int} : addD (.int a) (.int b) = .ok (.int (a + b)) := (rfl)
@[simp] theorem subD_ii {a b : Int} : subD (.int a) (.int b) = .ok (.int (a - b)) := (rfl)
@[simp] theorem negD_i {a : Int} : negD (.int a) = .ok (.int (-a)) := (rfl)
@[simp] theorem notD_b {a : Bool} : notD (.bool a) = .ok (.bool (!a)) := (rfl)
theorem addD_ll {a b : List D} (h : a.length + b.length ≤ sizeLine) : addD (.list a) (.list b) = .ok (.list (a ++ b)) := okIf_p h
theorem addD_tt {a b : List D} (h : a.length + b.length ≤ sizeLine) : addD (.tuple a) (.tuple b) = .ok (.tuple (a ++ b)) := okIf_p h
theorem addD_ss {a b : Str} (h : a.length + b.length ≤ sizeLine) : addD (.str a) (.str b) = .ok (.str (a ++ b)) := okIf_p h
@[simp] theorem ltD_ii {a b : Int} : ltD (.int a) (.int b) = .ok (.bool (decide (a < b))) := (rfl)
@[simp] theorem ltD_ss {a b : Str} : ltD (.str a) (.str b) = .ok (.bool (decide (a.cps.toList < b.cps.toList))) := (rfl)
@[simp] theorem leD_ii {a b : Int} : leD (.int a) (.int b) = .ok (.bool (decide (a ≤ b))) := (rfl)
@[simp] theorem gtD_ii {a b : Int} : gtD (.int a) (.int b) = .ok (.bool (decide (b < a))) := (rfl)
@[simp] theorem geD_ii {a b : Int} : geD (.int a) (.int b) = .ok (.bool (decide (b ≤ a))) := (rfl)
@[simp] theorem eqD_ii {a b : Int} : eqD (.int a) (.int b) = .ok (.bool (decide (a = b))) := by simp [eqD, shp, PyData.eqv, Bool.beq_eq_decide_eq]
@[simp] theorem neD_ii {a b : Int} : neD (.int a) (.int b) = .ok (.bool (!decide (a = b))) := by simp [neD, shp, PyData.eqv, Bool.beq_eq_decide_eq]
@[simp] theorem eqD_bb {a b : Bool} : eqD (.bool a) (.bool b) = .ok (.bool (decide (a = b))) := by simp [eqD, shp, PyData.eqv, Bool.beq_eq_decide_eq]
@[simp] theorem neD_bb {a b : Bool} : neD (.bool a) (.bool b) = .ok (.bool (!decide (a = b))) := by simp [neD, shp, PyData.eqv, Bool.beq_eq_decide_eq]
theorem modD_i {a b : Int} (h : 0 < b) : modD (.int a) (.int b) = .ok (.int (a % b)) := by
  simp only [modD]
  rw [Int.fmod_eq_emod_of_nonneg _ (by omega)]
  exact okIf_p (by omega)
theorem fdivD_i {a b : Int} (h : 0 < b) (h2 : b < 1073741824) : fdivD (.int a) (.int b) = .ok (.int (a / b)) := by
  simp only [fdivD]
  rw [Int.fdiv_eq_ediv_of_nonneg _ (by omega)]
  have : (decide (b ≠ 0) && decide (b.natAbs < 1073741824)) = true := by
    simp only [Bool.and_eq_true, decide_eq_true_eq]; omega
  rw [this]; rfl
theorem mulD_l {a b : Int} (h : -(2 ^ 64) < a) (h2 : a < 2 ^ 64) : mulD (.int a) (.int b) = .ok (.int (a * b)) := by
  have : mulOk a b = true := by simp only [mulOk, decide_eq_true h, decide_eq_true h2]; rfl
  simp only [mulD, this]; rfl
theorem mulD_r {a b : Int} (h : -(2 ^ 64) < b) (h2 : b < 2 ^ 64) : mulD (.int a) (.int b) = .ok (.int (a * b)) := by
  have : mulOk a b = true := by simp only [mulOk, decide_eq_true h, decide_eq_true h2]; simp
  simp only [mulD, this]; rfl
theorem powD_i {a b : Int} (h : 0 ≤ b) (h2 : b ≤ 1000000) (h3 : a.natAbs < 2 ^ 64) : powD (.int a) (.int b) = .ok (.int (a ^ b.toNat)) := by
  simp only [powD, decide_eq_true h, decide_eq_true h2, decide_eq_true h3]; rfl
theorem mkTup_ok {ds : List D} (h : ds.length ≤ sizeLine) : mkTup ds = .ok (.tuple ds) := if_pos h
theorem mkLst_ok {ds : List D} (h : ds.length ≤ sizeLine) : mkLst ds = .ok (.list ds) := if_pos h
@[simp] theorem mkTup_0 : mkTup [] = .ok (.tuple []) := (rfl)
@[simp] theorem mkTup_1 {a : D} : mkTup [a] = .ok (.tuple [a]) := (rfl)
@[simp] theorem mkTup_2 {a b : D} : mkTup [a, b] = .ok (.tuple [a, b]) := (rfl)
@[simp] theorem mkTup_3 {a b c : D} : mkTup [a, b, c] = .ok (.tuple [a, b, c]) := (rfl)
@[simp] theorem mkTup_4 {a b c e : D} : mkTup [a, b, c, e] = .ok (.tuple [a, b, c, e]) := (rfl)
@[simp] theorem mkLst_0 : mkLst [] = .ok (.list []) := (rfl)
@[simp] theorem mkLst_1 {a : D} : mkLst [a] = .ok (.list [a]) := (rfl)
@[simp] theorem mkLst_2 {a b : D} : mkLst [a, b] = .ok (.list [a, b]) := (rfl)
@[simp] theorem mkLst_3 {a b c : D} : mkLst [a, b, c] = .ok (.list [a, b, c]) := (rfl)
@[simp] theorem lenF_l {ds : List D} : lenF [.list ds] = .ok (.int ds.length) := (rfl)
@[simp] theorem lenF_t {ds : List D} : lenF [.tuple ds] = .ok (.int ds.length) := (rfl)
theorem lenF_s {z : Str} (h : z.length ≤ sizeLine) : lenF [.str z] = .ok (.int z.length) := okIf_p h
@[simp] theorem sumF_e {ns : List Int} : sumF [.list (ns.map .int)] = .ok (.int ns.sum) := by simp [sumF]
@[simp] theorem minF_e {n : Int} {ns : List Int} : minF [.list ((n :: ns).map .int)] = .ok (.int (ns.foldl min n)) := by simp [minF, intsOf]
@[simp] theorem maxF_e {n : Int} {ns : List Int} : maxF [.list ((n :: ns).map .int)] = .ok (.int (ns.foldl max n)) := by simp [maxF, intsOf]
@[simp] theorem minF_2 {a b : Int} : minF [.int a, .int b] = .ok (.int (min a b)) := (rfl)
@[simp] theorem maxF_2 {a b : Int} : maxF [.int a, .int b] = .ok (.int (max a b)) := (rfl)
@[simp] theorem allF_e {bs : List Bool} : allF [.list (bs.map .bool)] = .ok (.bool (bs.all id)) := by simp [allF]
@[simp] theorem anyF_e {bs : List Bool} : anyF [.list (bs.map .bool)] = .ok (.bool (bs.any id)) := by simp [anyF]
@[simp] theorem tupF_l {ds : List D} : tupF [.list ds] = .ok (.tuple ds) := (rfl)
@[simp] theorem tupF_t {ds : List D} : tupF [.tuple ds] = .ok (.tuple ds) := (rfl)
@[simp] theorem lstF_l {ds : List D} : lstF [.list ds] = .ok (.list ds) := (rfl)
@[simp] theorem lstF_t {ds : List D} : lstF [.tuple ds] = .ok (.list ds) := (rfl)
@[simp] theorem intF_i {a : Int} : intF [.int a] = .ok (.int a) := (rfl)
@[simp] theorem intF_b {a : Bool} : intF [.bool a] = .ok (.int (if a = true then 1 else 0)) := (rfl)
@[simp] theorem sortedF_e {ns : List Int} : sortedF [.list (ns.map .int)] = .ok (.list ((srtI ns).map .int)) := by simp [sortedF]
@[simp] theorem isiF_e {T : String} : isiF T d = .ok (.bool (isiD T d)) := (rfl)
theorem atI_nn {α : Type} {xs : List α} {j : Int} (h : 0 ≤ j) : atI xs j = xs[j.toNat]? := by
  unfold atI ixN
  rw [if_pos h]
  by_cases hl : j < xs.length
  · rw [if_pos hl]; rfl
  · rw [if_neg hl]
    exact (List.getElem?_eq_none (by omega)).symm
theorem ixD_l {ds : List D} {j : Int} (h : 0 ≤ j) (e : ds[j.toNat]? = some d) : ixD (.list ds) (.int j) = .ok d := by simp only [ixD, atI_nn h, e]
theorem ixD_t {ds : List D} {j : Int} (h : 0 ≤ j) (e : ds[j.toNat]? = some d) : ixD (.tuple ds) (.int j) = .ok d := by simp only [ixD, atI_nn h, e]
@[simp] theorem ixD_t0 {a : D} {ds : List D} : ixD (.tuple (a :: ds)) (.int 0) = .ok a := ixD_t (by decide) rfl
@[simp] theorem ixD_t1 {a b : D} {ds : List D} : ixD (.tuple (a :: b :: ds)) (.int 1) = .ok b := ixD_t (by decide) rfl
@[simp] theorem ixD_t2 {a b c : D} {ds : List D} : ixD (.tuple (a :: b :: c :: ds)) (.int 2) = .ok c := ixD_t (by decide) rfl
@[simp] theorem ixD_t3 {a b c e : D} {ds : List D} : ixD (.tuple (a :: b :: c :: e :: ds)) (.int 3) = .ok e := ixD_t (by decide) rfl
@[simp] theorem ixD_l0 {a : D} {ds : List D} : ixD (.list (a :: ds)) (.int 0) = .ok a := ixD_l (by decide) rfl
@[simp] theorem ixD_l1 {a b : D} {ds : List D} : ixD (.list (a :: b :: ds)) (.int 1) = .ok b := ixD_l (by decide) rfl
@[simp] theorem rng1_e {j : Int} (h : -(2 ^ 62) ≤ j ∧ j < 2 ^ 62) : rng1 [.int j] = .ok (rngL 0 j.toNat) := if_pos h
/-! ### loops -/
@[simp] theorem forL_nil {bnd : D → Env → Option Env} : forL bnd f [] ρ = .next ρ := (rfl)
/-- a loop whose turns go on: a fold over what stands behind the slots -/
theorem forL_fold {α S : Type} {bnd : D → Env → Option Env} {body : YF} (enc : α → D) (st : S → Env) (step : S → α → S) : ∀ (xs : List α) (s : S), (∀ x ∈ xs, ∀ s, ∃ ρ', bnd (enc x) (st s) = some ρ' ∧ body ρ' = .next (st (step s x))) →
    forL bnd body (xs.map enc) (st s) = .next (st (xs.foldl step s))
  | [], s, _ => rfl
  | x :: xs, s, h => by
    obtain ⟨ρ', e1, e2⟩ := h x List.mem_cons_self s
    simp only [List.map_cons, forL, e1, e2]
    exact forL_fold enc st step xs _ fun y hy => h y (List.mem_cons_of_mem _ hy)
/-- .. with an invariant -/
theorem forL_foldI {α S : Type} {bnd : D → Env → Option Env} {body : YF} (enc : α → D) (st : S → Env) (step : S → α → S) (I : S → Prop) : ∀ (xs : List α) (s : S), I s → (∀ x ∈ xs, ∀ s, I s → I (step s x) ∧ ∃ ρ', bnd (enc x) (st s) = some ρ' ∧ body ρ' = .next (st (step s x))) →
    forL bnd body (xs.map enc) (st s) = .next (st (xs.foldl step s)) ∧ I (xs.foldl step s)
  | [], s, i, _ => ⟨rfl, i⟩
  | x :: xs, s, i, h => by
    obtain ⟨i', ρ', e1, e2⟩ := h x List.mem_cons_self s i
    simp only [List.map_cons, forL, e1, e2]
    exact forL_foldI enc st step I xs _ i' fun y hy => h y (List.mem_cons_of_mem _ hy)
/-- .. with an invariant over what is taken so far -/
theorem forL_inv {bnd : D → Env → Option Env} {body : YF} (I : List D → Env → Prop) : ∀ (ds pre : List D) (ρ : Env), I pre ρ → (∀ pre d ρ, d ∈ ds → I pre ρ → ∃ ρ' ρ2, bnd d ρ = some ρ' ∧ body ρ' = .next ρ2 ∧ I (pre ++ [d]) ρ2) →
    ∃ ρ2, forL bnd body ds ρ = .next ρ2 ∧ I (pre ++ ds) ρ2
  | [], pre, ρ, i, _ => ⟨ρ, rfl, by simpa using i⟩
  | d :: ds, pre, ρ, i, h => by
    obtain ⟨ρ', ρ2, e1, e2, i2⟩ := h pre d ρ List.mem_cons_self i
    simp only [forL, e1, e2]
    obtain ⟨ρ3, e3, i3⟩ := forL_inv I ds (pre ++ [d]) ρ2 i2 fun p e r hm hi => h p e r (List.mem_cons_of_mem _ hm) hi
    exact ⟨ρ3, e3, by simpa using i3⟩
theorem lcL_map {α : Type} {bnd : D → Env → Option Env} {gt : Env → R Bool} {ge : Env → R D} (enc : α → D) (p : α → Bool) (h : α → D) : ∀ (xs : List α), (∀ x ∈ xs, ∃ ρ', bnd (enc x) ρ = some ρ' ∧ gt ρ' = .ok (p x) ∧ (p x = true → ge ρ' = .ok (h x))) →
    lcL bnd gt ge ρ (xs.map enc) = .ok ((xs.filter p).map h)
  | [], _ => rfl
  | x :: xs, hh => by
    obtain ⟨ρ', e1, e2, e3⟩ := hh x List.mem_cons_self
    have ih := lcL_map enc p h xs fun y hy => hh y (List.mem_cons_of_mem _ hy)
    simp only [List.map_cons, lcL, e1, e2]
    cases q : p x with
    | true => rw [e3 q, ih]; simp [q]
    | false => simp [q, ih]
theorem lcL_all {α : Type} {bnd : D → Env → Option Env} {ge : Env → R D} (enc : α → D) (h : α → D) (xs : List α) (hh : ∀ x ∈ xs, ∃ ρ', bnd (enc x) ρ = some ρ' ∧ ge ρ' = .ok (h x)) :
    lcL bnd tYesX ge ρ (xs.map enc) = .ok (xs.map h) := by
  have := lcL_map (gt := tYesX) enc (fun _ => true) h xs fun x hx => let ⟨ρ', a, b⟩ := hh x hx; ⟨ρ', a, rfl, fun _ => b⟩
  rwa [List.filter_eq_self.mpr (by simp)] at this
theorem runF_ret {n : Nat} {fr : Bool} {body : YF} {ds : List D} (h : body (ds.map some ++ List.replicate (n - ds.length) none) = .ret d) : runF n fr body ds = .ok d := by unfold runF; rw [h]
/-- a list of ints is no longer than it may be -/
theorem small {n : Nat} (h : n ≤ 1000000) : n ≤ sizeLine := by rw [sizeLine_eq]; omega
theorem smallT {n : Nat} (h : n < 1000000) : n < sizeLine := by rw [sizeLine_eq]; omega
theorem shp_all {n : Nat} {ds : List D} (h : ∀ d ∈ ds, shp n d = true) : ds.all (shp n) = true := List.all_eq_true.mpr h
@[simp] theorem shp_ints {n : Nat} {ns : List Int} : (ns.map PyData.int).all (shp n) = true := by
  simp only [List.all_map, List.all_eq_true]
  intro x _; cases n <;> rfl
@[simp] theorem shp_int {n : Nat} {i : Int} : shp n (.int i) = true := by cases n <;> rfl
@[simp] theorem shp_bool {n : Nat} {i : Bool} : shp n (.bool i) = true := by cases n <;> rfl
@[simp] theorem shp_str {n : Nat} {i : Str} : shp n (.str i) = true := by cases n <;> rfl
@[simp] theorem shp_none {n : Nat} : shp n .none = true := by cases n <;> rfl
@[simp] theorem shp_lst {n : Nat} {ds : List D} : shp (n + 1) (.list ds) = ds.all (shp n) := (rfl)
@[simp] theorem shp_tup {n : Nat} {ds : List D} : shp (n + 1) (.tuple ds) = ds.all (shp n) := (rfl)
theorem eqvAll_self : ∀ ds : List D, (∀ d ∈ ds, PyData.eqv d d = true) → PyData.eqvAll ds ds = true
  | [], _ => rfl
  | d :: ds, h => by simp [PyData.eqvAll, h d List.mem_cons_self, eqvAll_self ds fun e he => h e (List.mem_cons_of_mem _ he)]
theorem eqv_self : ∀ (n : Nat) (d : D), shp n d = true → PyData.eqv d d = true
  | n, .none, _ => by simp [PyData.eqv]
  | n, .bool b, _ => by simp [PyData.eqv]
  | n, .int i, _ => by simp [PyData.eqv]
  | n, .str s, _ => by simp [PyData.eqv]
  | n, .dict k, h => by cases n <;> simp [shp] at h
  | 0, .list ds, h => by simp [shp] at h
  | 0, .tuple ds, h => by simp [shp] at h
  | n + 1, .list ds, h => by
    simp only [PyData.eqv]
    exact eqvAll_self ds fun d hd => eqv_self n d (List.all_eq_true.mp h d hd)
  | n + 1, .tuple ds, h => by
    simp only [PyData.eqv]
    exact eqvAll_self ds fun d hd => eqv_self n d (List.all_eq_true.mp h d hd)
theorem eqD_self {d : D} (h : shp 16 d = true) : eqD d d = .ok (.bool true) := by simp only [eqD, h, eqv_self 16 d h]; rfl
theorem neD_self {d : D} (h : shp 16 d = true) : neD d d = .ok (.bool false) := by simp only [neD, h, eqv_self 16 d h]; rfl
end
end MV

set_option Elab.async false
set_option linter.all false
set_option maxRecDepth 100000
set_option maxHeartbeats 4000000
namespace MV
open PySem L2
/-! ### slices, items, sums: more to reckon with -/
def cutG {α : Type} (xs : List α) (lo hi : Option Int) : List α := (xs.drop (HT.sIx xs.length 0 lo)).take (HT.sIx xs.length xs.length hi - HT.sIx xs.length 0 lo)
theorem cutD_eq (ds : List D) (lo hi : Option Int) : cutD ds lo hi = cutG ds lo hi := rfl
theorem cutG_map {α β : Type} (f : α → β) (xs : List α) (lo hi : Option Int) : cutG (xs.map f) lo hi = (cutG xs lo hi).map f := by
  unfold cutG; rw [List.length_map, ← List.map_drop, ← List.map_take]
theorem cutD_map {α : Type} (f : α → D) (xs : List α) (lo hi : Option Int) : cutD (xs.map f) lo hi = (cutG xs lo hi).map f := cutG_map f xs lo hi
theorem sIx_pos {n d : Nat} {v : Int} (h : 0 ≤ v) : HT.sIx n d (some v) = min v.toNat n := by
  show (if v < 0 then (v + (n : Int)).toNat else min v.toNat n) = _
  rw [if_neg (by omega)]
theorem sIx_no {n d : Nat} : HT.sIx n d none = d := rfl
theorem cutG_pp {α : Type} {xs : List α} {a b : Int} (ha : 0 ≤ a) (hb : 0 ≤ b) : cutG xs (some a) (some b) = (xs.drop a.toNat).take (b.toNat - a.toNat) := by
  unfold cutG
  rw [sIx_pos ha, sIx_pos hb]
  apply List.ext_getElem?
  intro i
  rw [List.getElem?_take, List.getElem?_take, List.getElem?_drop, List.getElem?_drop]
  by_cases h1 : a.toNat ≤ xs.length
  · rw [Nat.min_eq_left h1]
    by_cases h2 : i < b.toNat - a.toNat
    · by_cases h3 : i < min b.toNat xs.length - a.toNat
      · rw [if_pos h2, if_pos h3]
      · rw [if_pos h2, if_neg h3, List.getElem?_eq_none (by omega)]
    · rw [if_neg h2, if_neg (by omega)]
  · rw [if_neg (by omega)]
    split
    · rw [List.getElem?_eq_none (by omega)]
    · rfl
theorem cutG_pn {α : Type} {xs : List α} {a : Int} (ha : 0 ≤ a) : cutG xs (some a) none = xs.drop a.toNat := by
  unfold cutG
  rw [sIx_pos ha, sIx_no]
  by_cases h1 : a.toNat ≤ xs.length
  · rw [Nat.min_eq_left h1, ← List.length_drop, List.take_length]
  · rw [Nat.min_eq_right (by omega), List.drop_length, List.drop_eq_nil_of_le (by omega), List.take_nil]
theorem cutG_np {α : Type} {xs : List α} {b : Int} (hb : 0 ≤ b) : cutG xs none (some b) = xs.take b.toNat := by
  unfold cutG
  rw [sIx_pos hb, sIx_no, List.drop_zero, Nat.sub_zero]
  by_cases h1 : b.toNat ≤ xs.length
  · rw [Nat.min_eq_left h1]
  · rw [Nat.min_eq_right (by omega), List.take_length, List.take_of_length_le (by omega)]
theorem cutG_nn {α : Type} {xs : List α} : cutG xs none none = xs := by
  unfold cutG; rw [sIx_no, sIx_no, List.drop_zero, Nat.sub_zero, List.take_length]
theorem cutG_mem {α : Type} {xs : List α} {lo hi : Option Int} {x : α} (h : x ∈ cutG xs lo hi) : x ∈ xs := List.mem_of_mem_drop (List.mem_of_mem_take h)
theorem cutG_len {α : Type} {xs : List α} {lo hi : Option Int} : (cutG xs lo hi).length ≤ xs.length := by
  unfold cutG; rw [List.length_take, List.length_drop]; omega
@[simp] theorem slD_l {ds : List D} {lo hi : Option Int} : slD (.list ds) lo hi = .ok (.list (cutD ds lo hi)) := rfl
@[simp] theorem slD_t {ds : List D} {lo hi : Option Int} : slD (.tuple ds) lo hi = .ok (.tuple (cutD ds lo hi)) := rfl
@[simp] theorem slL_l {ds : List D} {lo hi : Option Int} : slL (.list ds) lo hi = .ok (.list (cutD ds lo hi)) := rfl
theorem perm_sum {xs ys : List Int} (h : xs.Perm ys) : xs.sum = ys.sum := by
  induction h with
  | nil => rfl
  | cons x _ ih => simp [ih]
  | swap x y l => simp; omega
  | trans _ _ a b => exact a.trans b
/-- the item of a list of ints, or 0 -/
def cell (ns : List Int) (k : Nat) : Int := ns.getD k 0
theorem cell_get {ns : List Int} {k : Nat} (h : k < ns.length) : (ns.map PyData.int)[k]? = some (.int (cell ns k)) := by
  rw [List.getElem?_map, List.getElem?_eq_getElem h]
  simp [cell, List.getD_eq_getElem?_getD, List.getElem?_eq_getElem h]
theorem cell_none {ns : List Int} {k : Nat} (h : ns.length ≤ k) : cell ns k = 0 := by
  simp [cell, List.getD_eq_getElem?_getD, List.getElem?_eq_none h]
theorem forL_ixA {α : Type} {bnd : D → Env → Option Env} {body : YF} (enc : α → D) (I : Nat → Env → Prop) (P : Out → Prop) : ∀ (xs : List α) (k : Nat) (ρ : Env), I k ρ →
    (∀ i x ρ, xs[i]? = some x → I (k + i) ρ → ∃ ρ', bnd (enc x) ρ = some ρ' ∧ ((∃ ρ2, (body ρ' = .next ρ2 ∨ body ρ' = .cnt ρ2) ∧ I (k + i + 1) ρ2) ∨ ((∀ ρ2, body ρ' ≠ .next ρ2 ∧ body ρ' ≠ .cnt ρ2 ∧ body ρ' ≠ .brk ρ2) ∧ P (body ρ')))) →
    (∃ ρ2, forL bnd body (xs.map enc) ρ = .next ρ2 ∧ I (k + xs.length) ρ2) ∨ P (forL bnd body (xs.map enc) ρ)
  | [], k, ρ, i, _ => .inl ⟨ρ, rfl, i⟩
  | x :: xs, k, ρ, i, h => by
    obtain ⟨ρ', e1, ⟨ρ2, e2, i2⟩ | ⟨n, p⟩⟩ := h 0 x ρ rfl i
    · have e3 : forL bnd body ((x :: xs).map enc) ρ = forL bnd body (xs.map enc) ρ2 := by
        rcases e2 with e2 | e2 <;> simp only [List.map_cons, forL, e1, e2]
      rw [e3]
      have := forL_ixA enc I P xs (k + 1) ρ2 i2 fun i y ρ hy hi => by
        have := h (i + 1) y ρ (by simpa using hy) (by rw [show k + (i + 1) = k + 1 + i by omega]; exact hi)
        rwa [show k + (i + 1) + 1 = k + 1 + i + 1 by omega] at this
      rwa [show k + 1 + xs.length = k + (x :: xs).length by simp; omega] at this
    · refine .inr ?_
      simp only [List.map_cons, forL, e1]
      cases q : body ρ' with
      | next r => exact absurd q (n r).1
      | cnt r => exact absurd q (n r).2.1
      | brk r => exact absurd q (n r).2.2
      | ret d => rw [q] at p; exact p
      | exc m r => rw [q] at p; exact p
      | stuck => rw [q] at p; exact p
/-- a loop that goes on, by an invariant over the turn -/
theorem forL_ix {α : Type} {bnd : D → Env → Option Env} {body : YF} (enc : α → D) (I : Nat → Env → Prop) (xs : List α) (ρ : Env) (h0 : I 0 ρ)
    (h : ∀ i x ρ, xs[i]? = some x → I i ρ → ∃ ρ' ρ2, bnd (enc x) ρ = some ρ' ∧ (body ρ' = .next ρ2 ∨ body ρ' = .cnt ρ2) ∧ I (i + 1) ρ2) :
    ∃ ρ2, forL bnd body (xs.map enc) ρ = .next ρ2 ∧ I xs.length ρ2 := by
  have := forL_ixA enc I (fun _ => False) xs 0 ρ h0 fun i x ρ hx hi => by
    obtain ⟨ρ', ρ2, a, b, c⟩ := h i x ρ hx (by simpa using hi)
    exact ⟨ρ', a, .inl ⟨ρ2, b, by simpa using c⟩⟩
  simpa using this
/-- .. that may leave with a value -/
theorem forL_ixR {α : Type} {bnd : D → Env → Option Env} {body : YF} (enc : α → D) (I : Nat → Env → Prop) (P : D → Prop) (xs : List α) (ρ : Env) (h0 : I 0 ρ)
    (h : ∀ i x ρ, xs[i]? = some x → I i ρ → ∃ ρ', bnd (enc x) ρ = some ρ' ∧ ((∃ ρ2, (body ρ' = .next ρ2 ∨ body ρ' = .cnt ρ2) ∧ I (i + 1) ρ2) ∨ ∃ d, body ρ' = .ret d ∧ P d)) :
    (∃ ρ2, forL bnd body (xs.map enc) ρ = .next ρ2 ∧ I xs.length ρ2) ∨ ∃ d, forL bnd body (xs.map enc) ρ = .ret d ∧ P d := by
  have := forL_ixA enc I (fun o => ∃ d, o = .ret d ∧ P d) xs 0 ρ h0 fun i x ρ hx hi => by
    obtain ⟨ρ', a, b | ⟨d, e, p⟩⟩ := h i x ρ hx (by simpa using hi)
    · exact ⟨ρ', a, .inl (by simpa using b)⟩
    · exact ⟨ρ', a, .inr ⟨fun r => by rw [e]; simp, d, e, p⟩⟩
  simpa using this
@[simp] theorem shp_ints' {n : Nat} {ns : List Int} : ns.all (shp n ∘ PyData.int) = true := by
  simp only [List.all_eq_true]
  intro x _; cases n <;> rfl
theorem take_succ_map {α β : Type} (f : α → β) {xs : List α} {i : Nat} {x : α} (h : xs[i]? = some x) : (xs.take (i + 1)).map f = (xs.take i).map f ++ [f x] := by
  rw [List.take_add_one, h]; simp
/-- a loop that looks through: it leaves with `d` at the first turn that fails `p` -/
theorem forL_all {α : Type} {bnd : D → Env → Option Env} {body : YF} (enc : α → D) (I : Env → Prop) (p : α → Bool) (d : D) : ∀ (xs : List α) (ρ : Env), I ρ →
    (∀ x ∈ xs, ∀ ρ, I ρ → ∃ ρ', bnd (enc x) ρ = some ρ' ∧ (p x = true → ∃ ρ2, (body ρ' = .next ρ2 ∨ body ρ' = .cnt ρ2) ∧ I ρ2) ∧ (p x = false → body ρ' = .ret d)) →
    (xs.all p = true → ∃ ρ2, forL bnd body (xs.map enc) ρ = .next ρ2 ∧ I ρ2) ∧ (xs.all p = false → forL bnd body (xs.map enc) ρ = .ret d)
  | [], ρ, i, _ => ⟨fun _ => ⟨ρ, rfl, i⟩, fun h => by simp at h⟩
  | x :: xs, ρ, i, h => by
    obtain ⟨ρ', e1, e2, e3⟩ := h x List.mem_cons_self ρ i
    cases hp : p x with
    | false =>
      refine ⟨fun q => by simp [hp] at q, fun _ => ?_⟩
      simp only [List.map_cons, forL, e1, e3 hp]
    | true =>
      obtain ⟨ρ2, e4, i2⟩ := e2 hp
      have e5 : forL bnd body ((x :: xs).map enc) ρ = forL bnd body (xs.map enc) ρ2 := by
        rcases e4 with e4 | e4 <;> simp only [List.map_cons, forL, e1, e4]
      rw [e5]
      have := forL_all enc I p d xs ρ2 i2 fun y hy => h y (List.mem_cons_of_mem _ hy)
      simpa [hp] using this
theorem rng1_n (n : Nat) (h : n ≤ 1000000) : rng1 [.int n] = .ok ((List.range n).map fun (i : Nat) => PyData.int (i : Int)) := by
  rw [rng1_e (by omega)]; simp [rngL]

end MV

set_option Elab.async false
set_option linter.all false
set_option maxRecDepth 100000
set_option maxHeartbeats 4000000
namespace MV
open PySem L2
section
variable {X : Cx} {W : WX} {B Ω : List Nat} {k : Nat} {a b c e o : Expr} {es : List Expr} {ga gb gc : Env → R D} {gs : Env → R (List D)} {pos p apos : Pos}
/-! ### methods of texts -/
theorem px_m1 {id : String} {name : Str} {r : V → List V → Hp → VK → Prop} {f : Str → D → R D} (slot : Slot "str" name id) (ty : typeOf (.builtin id) = pure (.type "method_descriptor")) (rule : MtR X id r)
    (hn : ∀ z y n, f z y ≠ .exc n) (hr : ∀ (O : List Addr) (H : Hp) (z : Str) (u : V) (y d : D) (Q : VK), (∀ a ∈ O, H a ≠ none) → PyData.strOk z = true → Rs X.K O H H u y → f z y = .ok d → (∀ v H', Same H H' → Rp X.K O H' v d → Q v H') → r (.str z) [u] H Q)
    (ho : PX X W B Ω o ga) (he : PB X W B Ω e gb) (hs : starEach [e] X.env = [(false, eval e X.env)] := by rfl) (hbase : attributeBase o name X.env (eval o X.env) = eval o X.env := by rfl) (hline : (apos.endLine == pos.line) = true := by rfl) :
    PX X W B Ω (.Call (.Attribute o name apos) [e] [] pos) (xM1 f ga gb) :=
  PE.imp (pe_m1 slot ty rule ho he hs hbase hline) fun σ H Q h => m1_run hn hr h
def findS (a : Str) : D → R D
  | .str b => .ok (.int (Txt.find a b))
  | _ => .stuck
def startsS (a : Str) : D → R D
  | .str b => .ok (.bool (Txt.startswith a b))
  | _ => .stuck
def zfillS (a : Str) : D → R D
  | .int i => okIf (PadOk i && PyData.strOk (Txt.zfill a i)) (.str (Txt.zfill a i))
  | _ => .stuck
theorem px_find (ho : PX X W B Ω o ga) (he : PB X W B Ω e gb) (hs : starEach [e] X.env = [(false, eval e X.env)] := by rfl) (hbase : attributeBase o "find" X.env (eval o X.env) = eval o X.env := by rfl) (hline : (apos.endLine == pos.line) = true := by rfl) :
    PX X W B Ω (.Call (.Attribute o "find" apos) [e] [] pos) (xM1 findS ga gb) :=
  px_m1 F.slot_str_find F.type_str_find mt_find (fun z y n => by cases y <;> simp [findS]) (fun O H z u y d Q ht hz hy e q => by
    cases y <;> simp only [findS] at e <;> cases e
    obtain ⟨rfl, _⟩ := hy.str
    exact ⟨_, _, rfl, rfl, q _ H Same.refl (.int _)⟩) ho he hs hbase hline
theorem px_starts (ho : PX X W B Ω o ga) (he : PB X W B Ω e gb) (hs : starEach [e] X.env = [(false, eval e X.env)] := by rfl) (hbase : attributeBase o "startswith" X.env (eval o X.env) = eval o X.env := by rfl) (hline : (apos.endLine == pos.line) = true := by rfl) :
    PX X W B Ω (.Call (.Attribute o "startswith" apos) [e] [] pos) (xM1 startsS ga gb) :=
  px_m1 F.slot_str_startswith F.type_str_startswith mt_startswith (fun z y n => by cases y <;> simp [startsS]) (fun O H z u y d Q ht hz hy e q => by
    cases y <;> simp only [startsS] at e <;> cases e
    obtain ⟨rfl, _⟩ := hy.str
    exact ⟨_, _, rfl, rfl, q _ H Same.refl (.bl _)⟩) ho he hs hbase hline
theorem px_zfill (ho : PX X W B Ω o ga) (he : PB X W B Ω e gb) (hs : starEach [e] X.env = [(false, eval e X.env)] := by rfl) (hbase : attributeBase o "zfill" X.env (eval o X.env) = eval o X.env := by rfl) (hline : (apos.endLine == pos.line) = true := by rfl) :
    PX X W B Ω (.Call (.Attribute o "zfill" apos) [e] [] pos) (xM1 zfillS ga gb) :=
  px_m1 F.slot_str_zfill F.type_str_zfill mt_zfill (fun z y n => by cases y <;> simp only [zfillS] <;> (try unfold okIf) <;> (try split) <;> simp) (fun O H z u y d Q ht hz hy e q => by
    cases y <;> simp only [zfillS] at e <;> try cases e
    obtain ⟨c, rfl⟩ := okIf_ok e
    rw [Bool.and_eq_true] at c
    obtain rfl := hy.int
    exact ⟨_, _, rfl, rfl, c.1, q _ H Same.refl (.str _ c.2)⟩) ho he hs hbase hline
/-! ### isinstance with two classes -/
def isi2F (T U : String) : D → R D := fun d => .ok (.bool (isiD T d || isiD U d))
theorem px_isi2 {T U : String} {pT pU p2 : Pos} {x2 : Nat} {nT nU : Str} (hg : Gl X "isinstance") (hm : X.mg "isinstance" = none) (hgT : Gl X nT) (hmT : X.mg nT = none) (hvT : bootBuiltins nT = some (.type T)) (hT : okTy T = true)
    (hgU : Gl X nU) (hmU : X.mg nU = none) (hvU : bootBuiltins nU = some (.type U)) (hU : okTy U = true) (ha : PB X W B Ω a ga)
    (hn : nT ≠ "__name__" := by decide) (hd : (nT == ("__debug__" : Str)) = false := by decide) (hn2 : nU ≠ "__name__" := by decide) (hd2 : (nU == ("__debug__" : Str)) = false := by decide)
    (hs : starEach [a, .Tuple [.Name nT pT, .Name nU pU] x2 p2] X.env = (false, eval a X.env) :: starEach [.Tuple [.Name nT pT, .Name nU pU] x2 p2] X.env := by rfl)
    (hs2 : starEach [.Tuple [.Name nT pT, .Name nU pU] x2 p2] X.env = (false, eval (.Tuple [.Name nT pT, .Name nU pU] x2 p2) X.env) :: starEach [] X.env := by rfl)
    (hs3 : starEach [.Name nT pT, .Name nU pU] X.env = (false, eval (.Name nT pT) X.env) :: starEach [.Name nU pU] X.env := by rfl) (hs4 : starEach [.Name nU pU] X.env = (false, eval (.Name nU pU) X.env) :: starEach [] X.env := by rfl)
    (hpl : (backTo pos (starEach [.Tuple [.Name nT pT, .Name nU pU] x2 p2] X.env)).any (·.1) = false := by rfl) :
    PX X W B Ω (.Call (.Name "isinstance" p) [a, .Tuple [.Name nT pT, .Name nU pU] x2 p2] [] pos) (x1 (isi2F T U) ga) := by
  refine PE.imp (pe_callB call_isiT hg hm (by decide +kernel) (pa_cons ha (pa_cons (pe_tup (pa_cons (pe_bltn (v := .ty T) hgT hmT hvT rfl hn hd) (pa_cons (pe_bltn (v := .ty U) hgU hmU hvU rfl hn2 hd2) pa_nil hs4) hs3)) pa_nil hs2) hs) (by decide) (by decide) hs hpl) fun σ H Q ⟨H0, O0, O, ρ, S, h⟩ => ⟨H0, O0, O, ρ, S, Good.bind (f := isi2F T U) h fun d v H1 e s1 r1 h1 => ?_⟩
  refine ⟨small (by simp), fun q hq => ?_⟩
  have sm := same_upd (o := .tup [V.ty T, V.ty U]) hq
  have r2 : Rs X.K O (upd H1 q (.tup [V.ty T, V.ty U])) (upd H1 q (.tup [V.ty T, V.ty U])) v d := Rs.ge sm (Ge.of_same sm) r1
  have k1 := isi_kit (K := X.K) hT d (by cases d <;> first | trivial | exact r1.dict.elim)
  have k2 := isi_kit (K := X.K) hU d (by cases d <;> first | trivial | exact r1.dict.elim)
  refine ⟨v, q, [.ty T, .ty U], _, [.type T, .type U], isiD T d || isiD U d, rfl, upd_same, .cons (.ty T) (.cons (.ty U) .nil), rs_ty r2, ?_, h1 _ _ sm (.bl _)⟩
  simp only [PySem.W.kitAny, k1, k2]
  cases isiD T d <;> cases isiD U d <;> rfl
end
section
variable {ρ : Env} {ga gb : Env → R D} {z : Str} {y : D}
@[simp] theorem xM1_e {f : Str → D → R D} : xM1 f ga gb ρ = (ga ρ).bind fun x => match x with | .str z => (gb ρ).bind (f z) | _ => .stuck := (rfl)
@[simp] theorem findS_e {a b : Str} : findS a (.str b) = .ok (.int (Txt.find a b)) := (rfl)
@[simp] theorem startsS_e {a b : Str} : startsS a (.str b) = .ok (.bool (Txt.startswith a b)) := (rfl)
@[simp] theorem isi2F_e {T U : String} {d : D} : isi2F T U d = .ok (.bool (isiD T d || isiD U d)) := (rfl)
end
end MV

set_option Elab.async false
set_option linter.all false
set_option maxRecDepth 100000
set_option maxHeartbeats 4000000
namespace MV
open PySem L2
section
variable {X : Cx} {pins : List (Addr × Obj)} {σ : St} {H H' : Hp} {s : Shared}
/-- an untracked thing of ours is tracked from here on -/
theorem inv_track {a : Addr} {o : HO} (I : Inv X pins σ H s) (F : FpOk X pins H a) (ha : X.s_0.heap.objs.size ≤ a) (new : ObjOk X.prog X.w (upd H a o) s.heap a o) : Inv X pins σ (upd H a o) s := by
  obtain ⟨hn, hL, hfs, _, hc, hp⟩ := F
  have ne : ∀ {b : Addr} {u : HO}, H b = some u → b ≠ a := fun e => ne_of_none e hn
  refine ⟨I.ok, I.os, I.bare, ⟨I.base.keep, I.base.slot, fun b ob q n hx => ?_, I.base.there, fun b xs q => ?_, fun b ob u q => ?_, fun b ps q => ?_⟩, I.loc, I.cell, ?_, fun x c e => ?_, fun p hp' => ?_, fun b u e => ?_, I.len⟩
  · have := Heap.lt_size q
    rw [upd_ne (fun z => by subst z; exact absurd this (Nat.not_lt.mpr ha))]; exact I.base.free b ob q n hx
  · have := I.base.tups b xs q
    rw [upd_ne (ne this)]; exact this
  · have := I.base.frzs b ob u q
    rw [upd_ne (ne this)]; exact this
  · obtain ⟨more, e⟩ := I.base.tbls b ps q
    exact ⟨more, by rw [upd_ne (ne e)]; exact e⟩
  · rw [upd_ne (Ne.symm hL)]; exact I.free
  · rw [upd_ne (hc x c e)]; exact I.freeC x c e
  · obtain ⟨e1, e2, e3⟩ := I.pin p hp'
    exact ⟨e1, by rw [upd_ne (hp p hp')]; exact e2, e3⟩
  · by_cases hb : b = a
    · subst hb; rw [upd_same] at e; cases e; exact new
    · rw [upd_ne hb] at e
      exact (I.hok b u e).stay (fun c v _ q => q) (fun c q => by rw [upd_ne (ne q)]; exact q) fun c xs q => by rw [upd_ne (ne q)]; exact q
/-- a call of one of the text's defs by value, at any depth, that cannot raise -/
theorem def_call {A : Around} {j : Nat} {f : Addr} {fd : FuncData} {ps : List Str} {sp : Sp} {Q : VK} {us : List Value} {vs : List V} (F : FnOk X.prog X.w X.K X.mg X.base (L2.CX X.prog X.w) j f fd ps sp) (hr : Room j A) (he : Env0 X.prog X.w X.K X.mg X.base A X.stack s H) (hb : Binds X.K fd ps [])
    (I : Inv X pins σ H s) (r : Vals vs us) (h : sp vs H Q (fun _ _ _ => False)) : wpAny (model X.prog X.w) A (call (.ref f) us) (EP X pins σ Q) (fun _ _ => False) s := by
  have hl : (us ++ []).length = ps.length := by rw [List.append_nil, ← r.length]; exact F.len _ _ _ _ h
  have hbt := hb s us I.kIn hl
  rw [List.append_nil] at hbt
  refine wpAny_call (codeAny_mono (F.run A X.stack s H ⟨us, []⟩ us vs Q _ hr he hbt r h) fun r s' hq => ?_)
  cases r with
  | error e => exact (let ⟨_, _, _, _, _, _, _, _, _, _, _, _, hE⟩ := hq; hE)
  | ok fl =>
    cases fl with
    | ret u => exact I.after hq
    | next => exact False.elim hq
    | brk => exact False.elim hq
    | cont => exact False.elim hq
end
section
variable {X : Cx} {pins : List (Addr × Obj)} {σ : St} {H H' : Hp} {s : Shared} {O : List Addr}
theorem each_reads (I : Inv X pins σ H s) : ∀ {xs : List V} {us : List Value} {ds : List D}, Vals xs us → RpAll X.K O H xs ds → PySem.W.EachIs (fun v k => ∃ as, Reads s.heap v k as) us ds
  | _, _, _, .nil, .nil => .nil
  | _, _, _, .cons r rs, .cons h hs => .cons (Dp.reads I _ _ _ (Rp.dp _ _ h) r) (each_reads I rs hs)
theorem each_of {α : Type} {f : α → D} : ∀ {xs : List V} {us : List Value} {bs : List α}, Vals xs us → RpAll X.K O H xs (bs.map f) → PySem.W.EachIs (fun v (b : α) => ∃ x, RelV x v ∧ Rp X.K O H x (f b)) us bs
  | _, _, [], .nil, .nil => .nil
  | _, _, b :: bs, .cons r rs, .cons h hs => .cons ⟨_, r, h⟩ (each_of rs hs)
theorem of_each {α : Type} {f : α → D} : ∀ {us : List Value} {bs : List α}, PySem.W.EachIs (fun v (b : α) => ∃ x, RelV x v ∧ Rp X.K O H x (f b)) us bs → ∃ xs, Vals xs us ∧ RpAll X.K O H xs (bs.map f)
  | _, _, .nil => ⟨[], .nil, .nil⟩
  | _, _, .cons ⟨x, r, h⟩ t => by
    obtain ⟨xs, rs, hs⟩ := of_each t
    exact ⟨x :: xs, .cons r rs, .cons h hs⟩
end
section
variable {X : Cx} {pins : List (Addr × Obj)} {σ : St} {H H' : Hp} {s : Shared} {O : List Addr}
/-- sorted(xs, key=f): f a def of the text, its keys alike -/
theorem sortKf_run {l f : Addr} {xs : List V} {ds kz : List D} {kd : Bool} {j : Nat} {fd : FuncData} {ps : List Str} {g : List D → R D} {Q : VK} (I : Inv X pins σ H s) (ht : ∀ a ∈ O, H a ≠ none) (hs : Rd H l (.lst xs)) (hx : RpAll X.K O H xs ds)
    (F : FnOk X.prog X.w X.K X.mg X.base (L2.CX X.prog X.w) j f fd ps (spM X.K X.mg [kd] false g)) (hr : Room (j + 2) X.A) (hb : Binds X.K fd ps [])
    (hlen : kz.length = ds.length) (hg : ∀ (i : Nat) (d k : D), ds[i]? = some d → kz[i]? = some k → g [d] = .ok k) (hal : PySem.W.AllAlike kz) (hsk : PySem.W.Sortable kz) (hdp : ∀ d ∈ kz, d.depth ≤ 20)
    (q : ∀ H' p xs', Same H H' → H' p = none → RpAll X.K O H' xs' (((ds.zip kz).mergeSort (PySem.W.dataLe false fun b : D × D => b.2)).map (·.1)) → Q (.ref p) (upd H' p (.lst xs'))) :
    wpAny (model X.prog X.w) X.A (call (.builtin "sorted") [.ref l] [(Str.ofString "key", .ref f)]) (EP X pins σ Q) X.xe s := by
  obtain ⟨its, rv, hl, hz⟩ := I.list (.inl hs)
  have hil : its.length = ds.length := rv.length.symm.trans hx.length
  have hzi : its.length ≤ sizeLine := by rw [← rv.length]; exact hz
  refine PySem.W.sorted_of_sort hl.isList hzi (PyProof.Rows.ksk_s1 _ _) (fun _ => PyProof.Rows.ksk_l1 _ _) fun E' => ?_
  rw [PyProof.Rows.ksk_t1]
  generalize ha : s.heap.objs.size + 1 = a
  have hna : H a = none := I.hok.fresh (by omega)
  have ho := PySem.W.copyHeap_at s.heap its
  rw [ha] at ho
  obtain ⟨e1, ho1⟩ : ∃ e1, ((PySem.W.copyHeap s.heap its).update a (Obj.mapSeq fun _ => (#[] : Array Value))).get? a = some (PyProof.Rows.seqObj "list" #[] e1) := ⟨_, PyProof.Rows.get?_update_seq ho fun _ => #[]⟩
  unfold PyProof.Rows.ksk_tree
  refine wpAny_bind (PyProof.Rows.listItems_at ho rfl ?_)
  refine wpAny_bind (PyProof.Rows.listUpdate_at ho rfl ?_ (by rw [List.size_toArray]; exact hzi) (Nat.zero_le _))
  refine wpAny_bind (PyProof.Rows.seqEpoch_at ho1 rfl ?_)
  refine wpAny_bind (wpAny_newTuple ?_ (by show its.length ≤ _; exact hzi))
  refine wpAny_bind (wpAny_newList ?_ (Nat.zero_le _))
  refine wpAny_holding ?_
  generalize hkS : (((PySem.W.copyHeap s.heap its).update a (Obj.mapSeq fun _ => (#[] : Array Value))).push { cls := .type "tuple", data := .seq its.toArray }).objs.size = kS
  have hka' : a < kS := by
    rw [← hkS, PyProof.Rows.size_push', Heap.size_update]
    exact Nat.lt_succ_of_lt (Heap.lt_size ho)
  have hka : kS ≠ a := Nat.ne_of_gt hka'
  have hage : s.heap.objs.size ≤ a := by rw [← ha]; exact Nat.le_succ _
  have hkge : s.heap.objs.size ≤ kS := Nat.le_trans hage (Nat.le_of_lt hka')
  have I3 : Inv X pins σ H { s with heap := PySem.W.sortingHeap (PySem.W.copyHeap s.heap its) (s.heap.objs.size + 1) its } := I.kept (t' := s.toks) fun _ _ => PySem.W.sorting_copy_old
  rw [ha] at I3
  unfold PyProof.Rows.ksk_rest
  refine wpAny_bind (wpAny_rule ?_)
  rw [← Array.forIn_toList]
  simp only [List.toList_toArray]
  have nk3 : (PySem.W.sortingHeap (PySem.W.copyHeap s.heap its) a its).get? kS = some (PyProof.Rows.seqObj "list" #[] 0) := by rw [← hkS]; exact Heap.get?_push_size _ rfl
  have na3 : (PySem.W.sortingHeap (PySem.W.copyHeap s.heap its) a its).get? a = some (PyProof.Rows.seqObj "list" #[] e1) := Heap.get?_push_of_some _ (Heap.get?_push_of_some _ ho1)
  have fa : ∀ {H'' : Hp}, H'' a = none → FpOk X pins H'' a := fun h => I.fpOk hage h
  have fk : ∀ {H'' : Hp}, H'' kS = none → FpOk X pins H'' kS := fun h => I.fpOk hkge h
  refine wpAny_bind (PyProof.Rows.ksk_fold (fun i s' => ∃ H' kA e xk, Inv X pins σ H' s' ∧ Same H H' ∧ s'.heap.get? kS = some (PyProof.Rows.seqObj "list" kA e) ∧ s'.heap.get? a = some (PyProof.Rows.seqObj "list" #[] e1) ∧ H' kS = none ∧ H' a = none ∧ Vals xk kA.toList ∧ RpAll X.K O H' xk (kz.take i)) its 0 _
    ⟨H, #[], 0, [], I3, Same.refl, nk3, na3, I.hok.fresh hkge, hna, .nil, by rw [List.take_zero]; exact .nil⟩ ?step ?done)
  case step =>
    rintro i u s1 hu ⟨H1, kA, e, xk, I1, sm, nk, na, hk0, ha0, rk, hk⟩
    simp only [Nat.zero_add] at hk ⊢
    have hi : i < its.length := (List.getElem?_eq_some_iff.mp hu).1
    obtain ⟨k, hkj⟩ : ∃ k, kz[i]? = some k := ⟨_, List.getElem?_eq_getElem (by omega)⟩
    obtain ⟨d, hdj⟩ : ∃ d, ds[i]? = some d := ⟨_, List.getElem?_eq_getElem (by omega)⟩
    obtain ⟨x, hxj, rx⟩ := (hx.same sm).get hdj
    have rxu : RelV x u := by
      obtain ⟨u', hu', r⟩ := rv.get hxj
      rw [hu] at hu'; cases hu'; exact r
    have Ip : Inv X ((kS, PyProof.Rows.seqObj "list" kA e) :: (a, PyProof.Rows.seqObj "list" #[] e1) :: pins) σ H1 s1 := I1.pins_of fun p hp => by
      rcases List.mem_cons.mp hp with rfl | hp
      · exact ⟨nk, hk0, (fk hk0).2.1, (fk hk0).2.2.1, fun v => by intro z; cases z⟩
      · rcases List.mem_cons.mp hp with rfl | hp
        · exact ⟨na, ha0, (fa ha0).2.1, (fa ha0).2.2.1, fun v => by intro z; cases z⟩
        · exact I1.pin p (List.mem_append_right _ hp)
    have hz2 : kA.size ≤ its.length := by
      have h1 := hk.length
      rw [rk.length, Array.length_toList, List.length_take] at h1
      omega
    refine wpAny_bind (wpAny_attempt (wpAny_mono (def_call F (hr.in1.in1) Ip.env0.in1.in1 hb Ip (vs := [x]) (.cons rxu .nil) (Q := fun v H2 => Same H1 H2 ∧ Rp X.K O H2 v k) ⟨O, [d], fun b hb' => by
      have := ht b hb'
      cases q0 : H b with
      | none => exact absurd q0 this
      | some o => rw [sm b o q0]; simp, ⟨by cases kd <;> first | exact rx | exact .inl rx, trivial⟩, ?_⟩) (fun ku s2 he => ?_) fun _ _ hF => hF.elim))
    · rw [hg i d k hdj hkj]
      exact fun v H' s1 r1 => ⟨s1, r1⟩
    obtain ⟨kv, H2, I2, rv2, sm2, rp2⟩ := he
    obtain ⟨nk2, hk2, _⟩ := I2.pin _ (List.mem_append_right _ (.head _))
    obtain ⟨na2, ha2, _⟩ := I2.pin _ (List.mem_append_right _ (.tail _ (.head _)))
    have I2' : Inv X pins σ H2 s2 := I2.pins_of fun p hp => I2.pin p (List.mem_append_right _ (.tail _ (.tail _ hp)))
    try dsimp only
    have s1u := Heap.SameBut.update s2.heap kS (Obj.mapSeq (·.push ku))
    obtain ⟨c2, hc2⟩ : ∃ c2, (s2.heap.update kS (Obj.mapSeq (·.push ku))).get? kS = some (PyProof.Rows.seqObj "list" (kA.push ku) c2) := ⟨_, PyProof.Rows.get?_update_seq nk2 (·.push ku)⟩
    refine wpAny_bind (PyProof.Rows.listUpdate_at nk2 rfl ?_ (Nat.le_trans hz2 hzi) (Nat.le_trans (Nat.le_of_eq (Array.size_push ..)) (Nat.succ_le_succ (Nat.le_trans hz2 hzi))))
    have I3' : Inv X pins σ H2 { s2 with heap := s2.heap.update kS (Obj.mapSeq (·.push ku)), toks := s2.toks } := I2'.turnedL (ch := [kS]) (fun b o hb e => (s1u.2 b (fun z => hb (by simp [z]))).trans e) fun b hb => by
      have : b = kS := by simpa using hb
      subst this; exact fk hk2
    have ek : kz.take (i + 1) = kz.take i ++ [k] := by rw [List.take_add_one, hkj]; simp
    refine wpAny_pure ⟨rfl, H2, kA.push ku, c2, xk ++ [kv], I3', Same.tr sm sm2, hc2, (s1u.2 a hka.symm).trans na2, hk2, ha2, ?_, ?_⟩
    · rw [Array.toList_push]
      exact rk.append (.cons rv2 .nil)
    · rw [ek]
      exact (hk.same sm2).append (.one rp2)
  case done =>
    rintro s1 ⟨H1, kA, e, xk, I1, sm, nk, na, hk0, ha0, rk, hk⟩
    rw [show kz.take (0 + its.length) = kz from List.take_of_length_le (by omega)] at hk
    have hrd := each_reads I1 rk hk
    have hsz : kA.size = its.length := by
      have h1 := hk.length
      rw [rk.length, Array.length_toList] at h1
      omega
    try dsimp only
    refine wpAny_bind (PyProof.Rows.listItems_at nk rfl ?_)
    obtain ⟨G, g1, g2⟩ := L2.restrict s1.heap (fun b => decide (b ≠ kS))
    have gk : G.get? kS = none := g2 kS (by simp)
    have gb : ∀ b, b ≠ kS → G.get? b = s1.heap.get? b := fun b hb => g1 b (by simp [hb])
    refine PySem.W.keyH_end (κ := PySem.W.dataKind s1.heap kz) (h₁ := G) (fun b o hb e => ?_) gk nk na hka (PySem.W.SortsAt.data (s := s1) hrd hal hsk (fun d hd => ?_)) hsz hzi fun h4 tk4 c k4 n4 => ?_
    · have hbk : b ≠ kS := fun z => by rw [z, gk] at e; cases e
      rw [gb b hbk] at e; exact e
    · have := hdp d hd
      have := hr.un
      show X.A.units + 1 + 1 + d.depth < _
      omega
    · have I4 : Inv X pins σ H1 { s1 with heap := h4, toks := tk4 } := I1.turnedL (ch := [a, kS]) (fun b o hb e => by
        simp only [List.mem_cons, List.not_mem_nil, or_false, not_or] at hb
        exact k4 b o hb.1 ((gb b hb.2).trans e)) fun b hb => by
        simp only [List.mem_cons, List.not_mem_nil, or_false] at hb
        rcases hb with rfl | rfl
        · exact fa ha0
        · exact fk hk0
      have e2 : (ds.zip kz).map (·.2) = kz := List.map_snd_zip (by omega)
      have e1' : (ds.zip kz).map (·.1) = ds := List.map_fst_zip (by omega)
      have hout := PySem.W.keyedOut_each (rev := false) (R := fun v (b : D × D) => ∃ x, RelV x v ∧ Rp X.K O H1 x b.1) (bs := ds.zip kz) (vs := its) (out := PySem.W.sortVals (PySem.W.dataKind s1.heap kz) false kA.toList its) (fun b => b.2) ⟨s1.heap, kA.toList, by rw [e2]; exact hal, by rw [e2], by rw [e2]; exact hrd⟩ (each_of rv (by rw [e1']; exact hx.same sm))
      obtain ⟨xs', rs', hs'⟩ := of_each (f := fun b : D × D => b.1) hout
      have hlen' : xs'.length ≤ sizeLine := by
        rw [hs'.length, List.length_map, (List.mergeSort_perm _ _).length_eq, List.length_zip]
        omega
      exact ⟨rfl, .ref a, upd H1 a (.lst xs'), inv_track I4 (fa ha0) (Nat.le_trans I.sz hage) ⟨hlen', _, c, rs', n4⟩, rfl, q H1 a xs' sm ha0 hs'⟩
end

def keysO (g : List D → R D) : List D → Option (List D)
  | [] => some []
  | d :: ds => match g [d] with
    | .ok k => match keysO g ds with
      | some ks => some (k :: ks)
      | none => none
    | _ => none
def tupB : D → Bool
  | .tuple (_ :: _) => true
  | _ => false
def keysOk (ks : List D) : Bool := (ks.all fun d => ks.all fun d' => PySem.W.alike d d') && ks.all tupB && ks.all fun d => decide (d.depth ≤ 20)
def sortKD (g : List D → R D) : D → R D
  | .list ds => match keysO g ds with
    | some kz => okIf (keysOk kz) (.list (((ds.zip kz).mergeSort (PySem.W.dataLe false fun b : D × D => b.2)).map (·.1)))
    | none => .stuck
  | _ => .stuck
theorem keysO_len {g : List D → R D} : ∀ {ds kz : List D}, keysO g ds = some kz → kz.length = ds.length
  | [], kz, h => by cases h; rfl
  | d :: ds, kz, h => by
    simp only [keysO] at h
    split at h
    · split at h
      · rename_i ks hk
        cases h
        rw [List.length_cons, List.length_cons, keysO_len hk]
      · cases h
    · cases h
theorem keysO_get {g : List D → R D} : ∀ {ds kz : List D}, keysO g ds = some kz → ∀ (i : Nat) (d k : D), ds[i]? = some d → kz[i]? = some k → g [d] = .ok k
  | [], kz, h, i, d, k, h1, h2 => by simp at h1
  | d0 :: ds, kz, h, i, d, k, h1, h2 => by
    simp only [keysO] at h
    split at h
    · rename_i k0 hk0
      split at h
      · rename_i ks hk
        cases h
        cases i with
        | zero => simp at h1 h2; subst h1 h2; exact hk0
        | succ i => exact keysO_get hk i d k (by simpa using h1) (by simpa using h2)
      · cases h
    · cases h
section
variable {X : Cx} {W : WX} {B Ω : List Nat} {k : Nat} {e : Expr} {ge : Env → R D} {pos p : Pos} {nm : Str} {f : Addr} {fd : FuncData} {ps : List Str} {g : List D → R D} {j : Nat} {kd : Bool}
def rSortKf (X : Cx) (f : Addr) (g : List D → R D) : List V → List V → Hp → VK → Prop := fun vs zs H Q => ∃ (l : Addr) (xs : List V) (ds kz : List D) (O : List Addr), vs = [.ref l] ∧ zs = [.ref f] ∧ (∀ a ∈ O, H a ≠ none) ∧ Rd H l (.lst xs) ∧ RpAll X.K O H xs ds ∧ keysO g ds = some kz ∧ keysOk kz = true ∧
  ∀ H' p xs', Same H H' → H' p = none → RpAll X.K O H' xs' (((ds.zip kz).mergeSort (PySem.W.dataLe false fun b : D × D => b.2)).map (·.1)) → Q (.ref p) (upd H' p (.lst xs'))
theorem cr_sortKf (F : FnOk X.prog X.w X.K X.mg X.base (L2.CX X.prog X.w) j f fd ps (spM X.K X.mg [kd] false g)) (hr : Room (j + 2) X.A) (hb : Binds X.K fd ps []) : CallRK X (.builtin "sorted") [Str.ofString "key"] (rSortKf X f g) := by
  intro pins s σ H vs zs us ws Q I r rz h
  obtain ⟨l, xs, ds, kz, O, rfl, rfl, ht, hs, hx, hk, hok, q⟩ := h
  obtain rfl := Vals.ref1 r
  obtain rfl := Vals.ref1 rz
  simp only [keysOk, Bool.and_eq_true, List.all_eq_true, decide_eq_true_eq] at hok
  refine sortKf_run I ht hs hx F hr hb (keysO_len hk) (keysO_get hk) (fun d hd d' hd' => hok.1.1 d hd d' hd') (.inl fun d hd => ?_) hok.2 q
  have := hok.1.2 d hd
  unfold tupB at this
  split at this
  · exact ⟨_, _, rfl⟩
  · cases this
theorem po_sortKf {kpos p2 : Pos} (G : Gd X W k) (C : DefOk X.prog X.w X.K X.mg X.base nm f fd ps [kd] false g j) (hj : Nat.ble (j + 2) k = true) (hg : Gl X "sorted") (hm : X.mg "sorted" = none) (hgf : Gl X nm) (he : PB X W B Ω e ge)
    (hdb : (nm == ("__debug__" : Str)) = false := by decide) (hs : starEach [e] X.env = (false, eval e X.env) :: starEach [] X.env := by rfl)
    (he2 : backTo pos (starEach [e] X.env) = (false, eval e X.env) :: backTo pos (starEach [] X.env) := by rfl) (hpl : (backTo pos (starEach [e] X.env)).any (·.1) = false := by rfl)
    (hall : (backToKw pos (keywordEach [⟨some "key", .Name nm p2, kpos⟩] X.env)).all (·.1.isSome) = true := by rfl) (hnone : (backToKw pos (keywordEach [⟨some "key", .Name nm p2, kpos⟩] X.env)).any (·.1.isNone) = false := by rfl)
    (hks : (backToKw pos (keywordEach [⟨some "key", .Name nm p2, kpos⟩] X.env)).filterMap (·.1) = [Str.ofString "key"] := by rfl) :
    PO X W B Ω (.Call (.Name "sorted" p) [e] [⟨some "key", .Name nm p2, kpos⟩] pos) (x1 (sortKD g) ge) :=
  PE.imp (pe_callBK (cr_sortKf C.F (G.hr.mono (Nat.le_of_ble_eq_true hj)) C.b) hg hm (by decide +kernel) (pa_cons he pa_nil hs) (pk_cons (pe_glob hgf C.m (v := .ref f) rfl hdb) pk_nil) (by decide) (by decide) he2 hpl hall hnone hks) fun σ H Q ⟨H0, O0, O, ρ, S, h⟩ => ⟨H0, O0, O, ρ, S, Good.bind (f := sortKD g) h fun d v H1 e s1 r1 h1 => by
    cases d <;> first | exact h1.elim | skip
    rename_i ds
    simp only [sortKD] at h1
    split at h1
    · rename_i kz hkz
      obtain ⟨p, xs, rfl, h2, h3⟩ := r1.lst
      obtain ⟨z, ez⟩ := h1.ok_of fun n hn => by unfold okIf at hn; split at hn <;> cases hn
      rw [ez] at h1
      obtain ⟨c, rfl⟩ := okIf_ok ez
      exact ⟨p, xs, ds, kz, O, rfl, rfl, (S.same s1).trk, h2, h3, hkz, c, fun H' q xs' sm hq hx => h1 _ _ (Same.tr sm (same_upd hq)) ⟨q, rfl, free_back (Same.tr s1 sm) hq, new_own hq hx⟩⟩
    · exact h1.elim⟩
end
end MV

set_option maxRecDepth 100000
set_option maxHeartbeats 4000000
namespace LK
open PySem L2 MV
def top (i : Nat) : Stmt := PySem.Challenge.pw_cubebook_k11_values_at_a_level.main.body.getD i (.Pass ⟨0, 0, 0, 0⟩)
structure Txt (mg : Str → Option Value) : Prop where
  n_all : mg "all" = none
  n_any : mg "any" = none
  n_bool : mg "bool" = none
  n_int : mg "int" = none
  n_isinstance : mg "isinstance" = none
  n_len : mg "len" = none
  n_list : mg "list" = none
  n_range : mg "range" = none
  n_sorted : mg "sorted" = none
  n_str : mg "str" = none
  n_tuple : mg "tuple" = none
abbrev s_is_whole : Stmt := top 1
abbrev N_is_whole : List Str := ["thing"]
theorem sc_is_whole : FnScope N_is_whole ["thing"] (defScope s_is_whole) := ⟨rfl, rfl, rfl, by decide +kernel, rfl, by decide +kernel, by decide +kernel⟩
abbrev s_value_key : Stmt := top 3
abbrev N_value_key : List Str := ["thing"]
theorem sc_value_key : FnScope N_value_key ["thing"] (defScope s_value_key) := ⟨rfl, rfl, rfl, by decide +kernel, rfl, by decide +kernel, by decide +kernel⟩
abbrev s_place_key : Stmt := top 4
abbrev N_place_key : List Str := ["key", "thing"]
theorem sc_place_key : FnScope N_place_key ["key"] (defScope s_place_key) := ⟨rfl, rfl, rfl, by decide +kernel, rfl, by decide +kernel, by decide +kernel⟩
abbrev s_in_order : Stmt := top 5
abbrev N_in_order : List Str := ["keys", "found", "key"]
theorem sc_in_order : FnScope N_in_order ["keys"] (defScope s_in_order) := ⟨rfl, rfl, rfl, by decide +kernel, rfl, by decide +kernel, by decide +kernel⟩
abbrev s_whole_of : Stmt := top 7
abbrev N_whole_of : List Str := ["ladder"]
theorem sc_whole_of : FnScope N_whole_of ["ladder"] (defScope s_whole_of) := ⟨rfl, rfl, rfl, by decide +kernel, rfl, by decide +kernel, by decide +kernel⟩
abbrev s_value_of : Stmt := top 8
abbrev N_value_of : List Str := ["line", "level"]
theorem sc_value_of : FnScope N_value_of ["line", "level"] (defScope s_value_of) := ⟨rfl, rfl, rfl, by decide +kernel, rfl, by decide +kernel, by decide +kernel⟩
abbrev s_values_at : Stmt := top 9
abbrev N_values_at : List Str := ["ladder", "level", "keys", "key", "line"]
theorem sc_values_at : FnScope N_values_at ["ladder", "level"] (defScope s_values_at) := ⟨rfl, rfl, rfl, by decide +kernel, rfl, by decide +kernel, by decide +kernel⟩
abbrev s_up : Stmt := top 10
abbrev N_up : List Str := ["ladder", "value", "level", "line"]
theorem sc_up : FnScope N_up ["ladder", "value", "level"] (defScope s_up) := ⟨rfl, rfl, rfl, by decide +kernel, rfl, by decide +kernel, by decide +kernel⟩
abbrev s__law_cell_at : Stmt := top 12
abbrev N__law_cell_at : List Str := ["_law_script", "_law_k"]
theorem sc__law_cell_at : FnScope N__law_cell_at ["_law_script", "_law_k"] (defScope s__law_cell_at) := ⟨rfl, rfl, rfl, by decide +kernel, rfl, by decide +kernel, by decide +kernel⟩
abbrev s__law_stream : Stmt := top 13
abbrev N__law_stream : List Str := ["_law_cell", "_law_place", "_law_number", "_law_some", "_law_k"]
theorem sc__law_stream : FnScope N__law_stream ["_law_cell", "_law_place"] (defScope s__law_stream) := ⟨rfl, rfl, rfl, by decide +kernel, rfl, by decide +kernel, by decide +kernel⟩
abbrev s__law_word : Stmt := top 14
abbrev N__law_word : List Str := ["_law_cell", "_law_many", "_law_signs", "_law_word_here", "_law_k"]
theorem sc__law_word : FnScope N__law_word ["_law_cell", "_law_many"] (defScope s__law_word) := ⟨rfl, rfl, rfl, by decide +kernel, rfl, by decide +kernel, by decide +kernel⟩
abbrev s__law_value : Stmt := top 15
abbrev N__law_value : List Str := ["_law_way", "_law_cell", "_law_k", "_law_number", "_law_word_here", "_law_letters", "_law_at", "_law_two"]
theorem sc__law_value : FnScope N__law_value ["_law_way", "_law_cell", "_law_k"] (defScope s__law_value) := ⟨rfl, rfl, rfl, by decide +kernel, rfl, by decide +kernel, by decide +kernel⟩
abbrev s__law_ladder : Stmt := top 16
abbrev N__law_ladder : List Str := ["_law_cell", "_law_many", "_law_places", "_law_s", "_law_widths", "_law_j", "_law_lines", "_law_k", "_law_at", "_law_line", "_law_near"]
theorem sc__law_ladder : FnScope N__law_ladder ["_law_cell", "_law_many", "_law_places"] (defScope s__law_ladder) := ⟨rfl, rfl, rfl, by decide +kernel, rfl, by decide +kernel, by decide +kernel⟩
abbrev s__law_whole : Stmt := top 17
abbrev N__law_whole : List Str := ["_law_found"]
theorem sc__law_whole : FnScope N__law_whole ["_law_found"] (defScope s__law_whole) := ⟨rfl, rfl, rfl, by decide +kernel, rfl, by decide +kernel, by decide +kernel⟩
abbrev s__law_rank : Stmt := top 18
abbrev N__law_rank : List Str := ["_law_value_here"]
theorem sc__law_rank : FnScope N__law_rank ["_law_value_here"] (defScope s__law_rank) := ⟨rfl, rfl, rfl, by decide +kernel, rfl, by decide +kernel, by decide +kernel⟩
abbrev s__law_good : Stmt := top 19
abbrev N__law_good : List Str := ["_law_found", "_law_due", "_law_k", "_law_value_here"]
theorem sc__law_good : FnScope N__law_good ["_law_found", "_law_due"] (defScope s__law_good) := ⟨rfl, rfl, rfl, by decide +kernel, rfl, by decide +kernel, by decide +kernel⟩
abbrev s_law : Stmt := top 20
abbrev N_law : List Str := ["_law_script", "_law_head", "_law_many", "_law_places", "_law_lines", "_law_handed", "_law_whole_here", "_law_level", "_law_due", "_law_found", "_law_k", "_law_value_here", "_law_line"]
theorem sc_law : FnScope N_law ["_law_script"] (defScope s_law) := ⟨rfl, rfl, rfl, by decide +kernel, rfl, by decide +kernel, by decide +kernel⟩
-- is_whole: thing 0
def m_is_whole : YF := (yRet (xAnd (x1 (isiF "int") (xVar 0)) (x1 notD (x1 (isiF "bool") (xVar 0)))))
def g_is_whole : List D → R D := runF 1 false m_is_whole
-- value_key: thing 0
def t_value_key_5 : YF := (yRet (xTup (aCons (xC (.int 2)) (aCons (xC (.int 0)) (aCons (xVar 0) aNil)))))
def t_value_key_3 : YF := (ySeq (yIf (xT (xCall g_is_whole (aCons (xVar 0) aNil))) (yRet (xTup (aCons (xC (.int 1)) (aCons (xVar 0) (aCons (xC (.str "")) aNil))))) yNil) t_value_key_5)
def m_value_key : YF := (ySeq (yIf (xT (x2 isD (xVar 0) (xC .none))) (yRet (xTup (aCons (xC (.int 0)) (aCons (xC (.int 0)) (aCons (xC (.str "")) aNil))))) yNil) t_value_key_3)
def g_value_key : List D → R D := runF 1 false m_value_key
-- place_key: key 0, thing 1
def e_place_key_1 : MV.Env → R D := (xCall g_value_key (aCons (xVar 1) aNil))
def m_place_key : YF := (yRet (xCall tupF (aCons (xLc [1] (xSeq (xVar 0)) (bName 1) tYesX e_place_key_1) aNil)))
def g_place_key : List D → R D := runF 2 false m_place_key
-- in_order: keys 0, found 1, key 2
def b_in_order_2 : YF := (yIf (bOr (xT (x2 eqD (xVar 1) (xLst aNil))) (xT (x2 neD (x2 ixD (xVar 1) (x1 negD (xC (.int 1)))) (xVar 2)))) (yApp 1 (xVar 2)) yNil)
def t_in_order_5 : YF := (yRet (xVar 1))
def t_in_order_2 : YF := (ySeq (yFor (xSeq (x1 (sortKD g_place_key) (xVar 0))) (bName 2) b_in_order_2) t_in_order_5)
def m_in_order : YF := (ySeq (ySet 1 (xLst aNil)) t_in_order_2)
def g_in_order : List D → R D := runF 3 true m_in_order
-- whole_of: ladder 0
def m_whole_of : YF := (yRet (xCall lenF (aCons (x2 ixD (xVar 0) (xC (.int 0))) aNil)))
def g_whole_of : List D → R D := runF 1 false m_whole_of
-- value_of: line 0, level 1
def t_value_of_3 : YF := (yRet (x2 ixD (xVar 0) (xVar 1)))
def m_value_of : YF := (ySeq (yIf (xT (x2 eqD (xVar 1) (xCall lenF (aCons (xVar 0) aNil)))) (yRet (xC .none)) yNil) t_value_of_3)
def g_value_of : List D → R D := runF 2 false m_value_of
-- values_at: ladder 0, level 1, keys 2, key 3, line 4
def e_values_at_1 : MV.Env → R D := (xTup (aCons (xCall g_value_of (aCons (xVar 4) (aCons (xVar 1) aNil))) aNil))
def e_values_at_2 : MV.Env → R D := (x2 ixD (xVar 3) (xC (.int 0)))
def t_values_at_2 : YF := (yRet (xLc [3] (xSeq (xVar 2)) (bName 3) tYesX e_values_at_2))
def m_values_at : YF := (ySeq (ySet 2 (xCall g_in_order (aCons (xLc [4] (xSeq (xVar 0)) (bName 4) tYesX e_values_at_1) aNil))) t_values_at_2)
def g_values_at : List D → R D := runF 5 true m_values_at
-- up: ladder 0, value 1, level 2, line 3
def b_up_1 : YF := (yIf (xT (x2 eqD (x2 ixD (xVar 3) (xC (.int 0))) (xVar 1))) (yRet (xCall g_value_of (aCons (xVar 3) (aCons (xVar 2) aNil)))) yNil)
def t_up_4 : YF := (yRet (xC .none))
def m_up : YF := (ySeq (yFor (xSeq (xVar 0)) (bName 3) b_up_1) t_up_4)
def g_up : List D → R D := runF 4 false m_up
-- _law_cell_at: _law_script 0, _law_k 1
def t__law_cell_at_3 : YF := (yRet (xC (.int 0)))
def m__law_cell_at : YF := (ySeq (yIf (xT (x2 ltD (xVar 1) (xCall lenF (aCons (xVar 0) aNil)))) (yRet (x2 ixD (xVar 0) (xVar 1))) yNil) t__law_cell_at_3)
def g__law_cell_at : List D → R D := runF 2 false m__law_cell_at
-- _law_stream: _law_cell 0, _law_place 1, _law_number 2, _law_some 3, _law_k 4
def t__law_stream_5 : YF := (yApp 3 (x2 fdivD (xVar 2) (xC (.int 64))))
def b__law_stream_3 : YF := (ySeq (ySet 2 (x2 modD (x2 addD (x2 addD (x2 mulD (xVar 2) (xC (.int 48271))) (x2 mulD (xC (.int 2)) (xVar 4))) (xC (.int 11))) (xC (.int 2147483647)))) t__law_stream_5)
def t__law_stream_6 : YF := (yRet (xSl (xVar 3) (xP (xC (.int 1))) xNoP))
def t__law_stream_3 : YF := (ySeq (yFor (xRng rng1 (aCons (xC (.int 25)) aNil)) (bName 4) b__law_stream_3) t__law_stream_6)
def t__law_stream_2 : YF := (ySeq (ySet 3 (xLst aNil)) t__law_stream_3)
def m__law_stream : YF := (ySeq (ySet 2 (x2 modD (x2 addD (xVar 0) (x2 mulD (xC (.int 7919)) (xVar 1))) (xC (.int 2147483629)))) t__law_stream_2)
def g__law_stream : List D → R D := runF 5 false m__law_stream
-- _law_word: _law_cell 0, _law_many 1, _law_signs 2, _law_word_here 3, _law_k 4
def b__law_word_3 : YF := (ySet 3 (x2 addD (xVar 3) (x2 ixD (xVar 2) (x2 modD (x2 fdivD (xVar 0) (x2 addD (xVar 4) (xC (.int 3)))) (xC (.int 36))))))
def t__law_word_5 : YF := (yRet (xVar 3))
def t__law_word_3 : YF := (ySeq (yFor (xRng rng1 (aCons (xVar 1) aNil)) (bName 4) b__law_word_3) t__law_word_5)
def t__law_word_2 : YF := (ySeq (ySet 3 (x2 ixD (xVar 2) (x2 modD (xVar 0) (xC (.int 26))))) t__law_word_3)
def m__law_word : YF := (ySeq (ySet 2 (xC (.str "abcdefghijklmnopqrstuvwxyz0123456789"))) t__law_word_2)
def g__law_word : List D → R D := runF 5 false m__law_word
-- _law_value: _law_way 0, _law_cell 1, _law_k 2, _law_number 3, _law_word_here 4, _law_letters 5, _law_at 6, _law_two 7
def t__law_value_12 : YF := (yRet (x2 addD (x2 addD (xSl (xVar 4) xNoP (xP (xVar 6))) (xVar 7)) (xSl (xVar 4) (xP (xVar 6)) xNoP)))
def t__law_value_11 : YF := (ySeq (ySet 7 (x2 addD (x2 ixD (xVar 5) (x2 fdivD (xVar 2) (xC (.int 26)))) (x2 ixD (xVar 5) (x2 modD (x2 addD (xVar 2) (x2 fdivD (xVar 1) (xC (.int 8)))) (xC (.int 26)))))) t__law_value_12)
def t__law_value_10 : YF := (ySeq (ySet 6 (x2 modD (x2 fdivD (xVar 1) (xC (.int 8))) (x2 addD (xCall lenF (aCons (xVar 4) aNil)) (xC (.int 1))))) t__law_value_11)
def t__law_value_9 : YF := (ySeq (ySet 5 (xC (.str "abcdefghijklmnopqrstuvwxyz"))) t__law_value_10)
def t__law_value_7 : YF := (ySeq (yIf (xT (x2 eqD (xVar 0) (xC (.int 2)))) (yRet (x2 addD (xVar 4) (xM1 zfillS (xCall strF (aCons (xVar 2) aNil)) (x2 addD (xC (.int 1)) (x2 modD (x2 fdivD (xVar 1) (xC (.int 8))) (xC (.int 4))))))) yNil) t__law_value_9)
def t__law_value_6 : YF := (ySeq (ySet 4 (xCall g__law_word (aCons (x2 fdivD (xVar 1) (xC (.int 4))) (aCons (x2 modD (xVar 1) (xC (.int 8))) aNil)))) t__law_value_7)
def t__law_value_4 : YF := (ySeq (yIf (xT (x2 eqD (xVar 0) (xC (.int 1)))) (yRet (x2 subD (x2 subD (xC (.int 0)) (xVar 3)) (xVar 2))) yNil) t__law_value_6)
def t__law_value_2 : YF := (ySeq (yIf (xT (x2 eqD (xVar 0) (xC (.int 0)))) (yRet (x2 addD (xVar 3) (xVar 2))) yNil) t__law_value_4)
def m__law_value : YF := (ySeq (ySet 3 (x2 modD (x2 fdivD (xVar 1) (xC (.int 4))) (x2 powD (xC (.int 10)) (xC (.int 30))))) t__law_value_2)
def g__law_value : List D → R D := runF 8 false m__law_value
-- _law_ladder: _law_cell 0, _law_many 1, _law_places 2, _law_s 3, _law_widths 4, _law_j 5, _law_lines 6, _law_k 7, _law_at 8, _law_line 9, _law_near 10
def b__law_ladder_3 : YF := (yApp 4 (x2 ixD (xLst (aCons (x2 addD (xC (.int 1)) (x2 modD (x2 ixD (xVar 3) (xVar 5)) (xC (.int 6)))) (aCons (x2 addD (xC (.int 2)) (x2 modD (x2 ixD (xVar 3) (xVar 5)) (xC (.int 3)))) (aCons (xC (.int 47)) (aCons (xC (.int 3)) aNil))))) (x2 modD (x2 fdivD (x2 ixD (xVar 3) (xVar 5)) (xC (.int 64))) (xC (.int 4)))))
def t__law_ladder_13 : YF := (yApp 9 (xCall g__law_value (aCons (x2 modD (x2 addD (x2 ixD (xVar 3) (x2 addD (xC (.int 12)) (xVar 5))) (x2 mulD (xVar 8) (x2 modD (x2 ixD (xVar 3) (xC (.int 17))) (xC (.int 2))))) (xC (.int 4))) (aCons (xVar 10) (aCons (xVar 8) aNil)))))
def t__law_ladder_12 : YF := (ySeq (ySet 10 (x2 addD (xVar 0) (x2 mulD (x2 mulD (xVar 5) (x2 modD (x2 ixD (xVar 3) (xC (.int 16))) (xC (.int 2)))) (xC (.int 1000003))))) t__law_ladder_13)
def b__law_ladder_9 : YF := (ySeq (yIf (xT (x2 gtD (xVar 5) (xC (.int 0)))) (ySet 8 (x2 modD (x2 addD (x2 mulD (xVar 8) (x2 addD (xC (.int 1)) (x2 modD (x2 ixD (xVar 3) (x2 addD (xC (.int 4)) (xVar 5))) (xC (.int 5))))) (x2 ixD (xVar 3) (x2 addD (xC (.int 8)) (xVar 5)))) (x2 ixD (xVar 4) (xVar 5)))) yNil) t__law_ladder_12)
def t__law_ladder_14 : YF := (yApp 6 (xCall tupF (aCons (xVar 9) aNil)))
def t__law_ladder_9 : YF := (ySeq (yFor (xRng rng1 (aCons (xVar 2) aNil)) (bName 5) b__law_ladder_9) t__law_ladder_14)
def t__law_ladder_8 : YF := (ySeq (ySet 9 (xLst aNil)) t__law_ladder_9)
def b__law_ladder_6 : YF := (ySeq (ySet 8 (x2 modD (x2 addD (x2 mulD (xVar 7) (x2 addD (xC (.int 1)) (x2 modD (x2 ixD (xVar 3) (xC (.int 0))) (xC (.int 46))))) (x2 ixD (xVar 3) (xC (.int 4)))) (xC (.int 47)))) t__law_ladder_8)
def t__law_ladder_15 : YF := (yRet (xVar 6))
def t__law_ladder_6 : YF := (ySeq (yFor (xRng rng1 (aCons (xVar 1) aNil)) (bName 7) b__law_ladder_6) t__law_ladder_15)
def t__law_ladder_5 : YF := (ySeq (ySet 6 (xLst aNil)) t__law_ladder_6)
def t__law_ladder_3 : YF := (ySeq (yFor (xRng rng2 (aCons (xC (.int 1)) (aCons (xC (.int 4)) aNil))) (bName 5) b__law_ladder_3) t__law_ladder_5)
def t__law_ladder_2 : YF := (ySeq (ySet 4 (xLst (aCons (xC (.int 47)) aNil))) t__law_ladder_3)
def m__law_ladder : YF := (ySeq (ySet 3 (xCall g__law_stream (aCons (xVar 0) (aCons (xVar 2) aNil)))) t__law_ladder_2)
def g__law_ladder : List D → R D := runF 11 true m__law_ladder
-- _law_whole: _law_found 0
def m__law_whole : YF := (yRet (xAnd (x1 (isiF "int") (xVar 0)) (x1 notD (x1 (isiF "bool") (xVar 0)))))
def g__law_whole : List D → R D := runF 1 false m__law_whole
-- _law_rank: _law_value_here 0
def t__law_rank_5 : YF := (yRet (xTup (aCons (xC (.int 2)) (aCons (xC (.int 0)) (aCons (xVar 0) aNil)))))
def t__law_rank_3 : YF := (ySeq (yIf (xT (x1 (isiF "int") (xVar 0))) (yRet (xTup (aCons (xC (.int 1)) (aCons (xVar 0) (aCons (xC (.str "")) aNil))))) yNil) t__law_rank_5)
def m__law_rank : YF := (ySeq (yIf (xT (x2 isD (xVar 0) (xC .none))) (yRet (xTup (aCons (xC (.int 0)) (aCons (xC (.int 0)) (aCons (xC (.str "")) aNil))))) yNil) t__law_rank_3)
def g__law_rank : List D → R D := runF 1 false m__law_rank
-- _law_good: _law_found 0, _law_due 1, _law_k 2, _law_value_here 3
def e__law_good_1 : MV.Env → R D := (x1 (isiF "bool") (xVar 3))
def b__law_good_3 : YF := (yIf (bNot (xT (x2 ltD (xCall g__law_rank (aCons (x2 ixD (xVar 0) (x2 subD (xVar 2) (xC (.int 1)))) aNil)) (xCall g__law_rank (aCons (x2 ixD (xVar 0) (xVar 2)) aNil))))) (yRet (xC (.bool false))) yNil)
def e__law_good_6 : MV.Env → R D := (x2 inD (xVar 3) (xVar 1))
def e__law_good_6_1 : MV.Env → R D := (x2 inD (xVar 3) (xVar 0))
def t__law_good_6 : YF := (yRet (xAnd (xCall allF (aCons (xLc [3] (xSeq (xVar 0)) (bName 3) tYesX e__law_good_6) aNil)) (xCall allF (aCons (xLc [3] (xSeq (xVar 1)) (bName 3) tYesX e__law_good_6_1) aNil))))
def t__law_good_3 : YF := (ySeq (yFor (xRng rng2 (aCons (xC (.int 1)) (aCons (xCall lenF (aCons (xVar 0) aNil)) aNil))) (bName 2) b__law_good_3) t__law_good_6)
def m__law_good : YF := (ySeq (yIf (bOr (bNot (xT (x1 (isiF "list") (xVar 0)))) (xT (xCall anyF (aCons (xLc [3] (xSeq (xVar 0)) (bName 3) tYesX e__law_good_1) aNil)))) (yRet (xC (.bool false))) yNil) t__law_good_3)
def g__law_good : List D → R D := runF 4 false m__law_good
-- law: _law_script 0, _law_head 1, _law_many 2, _law_places 3, _law_lines 4, _law_handed 5, _law_whole_here 6, _law_level 7, _law_due 8, _law_found 9, _law_k 10, _law_value_here 11, _law_line 12
def e_law_14 : MV.Env → R D := (x2 ixD (xVar 12) (xVar 7))
def t_law_23 : YF := (yIf (bOr (xT (x1 (isiF "bool") (xVar 11))) (xT (x2 neD (xVar 11) (x2 ixD (xLst (aCons (xC .none) (aCons (x2 ixD (xVar 8) (x2 modD (xVar 10) (xCall lenF (aCons (xVar 8) aNil)))) aNil))) (xCall intF (aCons (x2 ltD (xVar 7) (xVar 3)) aNil)))))) (yRet (xC (.bool false))) yNil)
def b_law_21 : YF := (ySeq (ySet 11 (xCall g_up (aCons (xVar 5) (aCons (x2 ixD (x2 ixD (xVar 4) (xVar 10)) (xC (.int 0))) (aCons (xVar 7) aNil))))) t_law_23)
def t_law_21 : YF := (yFor (xRng rng1 (aCons (xVar 2) aNil)) (bName 10) b_law_21)
def t_law_19 : YF := (ySeq (yIf (bNot (xT (xCall g__law_good (aCons (xCall g_values_at (aCons (xVar 5) (aCons (xVar 7) aNil))) (aCons (xVar 8) aNil))))) (yRet (xC (.bool false))) yNil) t_law_21)
def t_law_18 : YF := (ySeq (yApp 9 (x2 ixD (xVar 9) (xC (.int 0)))) t_law_19)
def t_law_16 : YF := (ySeq (yIf (bNot (xT (xCall g__law_good (aCons (xVar 9) (aCons (xVar 8) aNil))))) (yRet (xC (.bool false))) yNil) t_law_18)
def t_law_15 : YF := (ySeq (ySet 9 (xCall g_values_at (aCons (xVar 5) (aCons (xVar 7) aNil)))) t_law_16)
def t_law_13 : YF := (ySeq (yIf (xT (x2 ltD (xVar 7) (xVar 3))) (ySet 8 (xLc [12] (xSeq (xVar 4)) (bName 12) tYesX e_law_14)) yNil) t_law_15)
def b_law_11 : YF := (ySeq (ySet 8 (xLst (aCons (xC .none) aNil))) t_law_13)
def t_law_25 : YF := (yRet (x2 eqD (xVar 5) (xVar 4)))
def t_law_11 : YF := (ySeq (yFor (xRng rng1 (aCons (x2 addD (xVar 3) (xC (.int 1))) aNil)) (bName 7) b_law_11) t_law_25)
def t_law_9 : YF := (ySeq (yIf (bOr (bNot (xT (xCall g__law_whole (aCons (xVar 6) aNil)))) (xT (x2 neD (xVar 6) (xVar 3)))) (yRet (xC (.bool false))) yNil) t_law_11)
def t_law_8 : YF := (ySeq (ySet 6 (xCall g_whole_of (aCons (xVar 5) aNil))) t_law_9)
def t_law_7 : YF := (ySeq (ySet 5 (xCall lstF (aCons (xVar 4) aNil))) t_law_8)
def t_law_6 : YF := (ySeq (ySet 4 (xCall g__law_ladder (aCons (xCall g__law_cell_at (aCons (xVar 0) (aCons (xC (.int 1)) aNil))) (aCons (xVar 2) (aCons (xVar 3) aNil))))) t_law_7)
def t_law_5 : YF := (ySeq (ySet 3 (x2 addD (xC (.int 1)) (x2 modD (xCall g__law_cell_at (aCons (xVar 0) (aCons (xC (.int 2)) aNil))) (xC (.int 4))))) t_law_6)
def t_law_3 : YF := (ySeq (yIf (xT (x2 eqD (x2 modD (xVar 1) (xC (.int 4))) (xC (.int 2)))) (ySet 2 (x2 addD (xC (.int 36)) (x2 modD (x2 fdivD (xVar 1) (xC (.int 4))) (xC (.int 5))))) yNil) t_law_5)
def t_law_2 : YF := (ySeq (ySet 2 (x2 addD (xC (.int 1)) (x2 modD (x2 fdivD (xVar 1) (xC (.int 4))) (xC (.int 12))))) t_law_3)
def m_law : YF := (ySeq (ySet 1 (xCall g__law_cell_at (aCons (xVar 0) (aCons (xC (.int 0)) aNil)))) t_law_2)
def g_law : List D → R D := runF 13 false m_law
section
variable {P : Program} {w : World} {K : PySem.W.Frag} {mg : Str → Option Value} {base : Heap}
theorem ok_is_whole {f : Addr} {fd : FuncData} (F : Fun K "is_whole" "is_whole" s_is_whole f fd) (T : Txt mg) : FnOk P w K mg base (L2.CX P w) 1 f fd ["thing"] (spM K mg [true] false g_is_whole) :=
  fn_ok (Ωl := []) (Ω' := []) F sc_is_whole [true] false m_is_whole rfl fun cdv A outer s H E g0 =>
    (pys_one (py_ret rfl (px_and (px_isi rfl T.n_isinstance rfl T.n_int (by decide +kernel) rfl (pb_var (i := 0) rfl (.inl rfl))) (px_one (px_not (px_isi rfl T.n_isinstance rfl T.n_bool (by decide +kernel) rfl (pb_var (i := 0) rfl (.inl rfl))))))))
theorem ok_value_key {f : Addr} {fd : FuncData} (F : Fun K "value_key" "value_key" s_value_key f fd) (T : Txt mg) {f_is_whole : Addr} {fd_is_whole : FuncData} (c_is_whole : DefOk P w K mg base "is_whole" f_is_whole fd_is_whole ["thing"] [true] false g_is_whole 1) : FnOk P w K mg base (L2.CX P w) 2 f fd ["thing"] (spM K mg [false] false g_value_key) :=
  fn_ok (Ωl := []) (Ω' := []) F sc_value_key [false] false m_value_key rfl fun cdv A outer s H E g0 =>
    (pys_cons (py_if (Ω' := []) rfl (ptx_cmp or_is (nomark _) nox_is rb_is (pb_var (i := 0) rfl (.inl rfl)) (PX.b px_non)) (pys_one (py_ret rfl (px_tup (paf_cons px_int (paf_cons px_int (paf_cons px_str paf_nil)))))) pys_nil) (pys_cons (py_if (Ω' := []) rfl (ptx_val (px_c g0 c_is_whole rfl rfl (pak_b (pb_var (i := 0) rfl (.inl rfl)) pak_nil))) (pys_one (py_ret rfl (px_tup (paf_cons px_int (paf_cons (px_var (i := 0) rfl (.inl rfl) rfl rfl) (paf_cons px_str paf_nil)))))) pys_nil) (pys_one (py_ret rfl (px_tup (paf_cons px_int (paf_cons px_int (paf_cons (px_var (i := 0) rfl (.inl rfl) rfl rfl) paf_nil))))))))
theorem ok_place_key {f : Addr} {fd : FuncData} (F : Fun K "place_key" "place_key" s_place_key f fd) (T : Txt mg) {f_value_key : Addr} {fd_value_key : FuncData} (c_value_key : DefOk P w K mg base "value_key" f_value_key fd_value_key ["thing"] [false] false g_value_key 2) : FnOk P w K mg base (L2.CX P w) 3 f fd ["key"] (spM K mg [true] false g_place_key) :=
  fn_ok (Ωl := []) (Ω' := []) F sc_place_key [true] false m_place_key rfl fun cdv A outer s H E g0 =>
    (pys_one (py_ret rfl (px_ty call_tuple_of nox_tup rc_tup rfl T.n_tuple (by decide +kernel) (pak_b (PX.b (PO.x (po_lc (own := [("thing", 1)]) g0 (pic_b (pb_var (i := 0) rfl (.inl rfl))) (blkOk_by (own := [("thing", 1)]) (N := N_place_key) (sc := defScope s_place_key) (by decide +kernel)) (tgu_name rfl rfl) rfl rfl (fun _ _ _ _ _ => pg_name (i := 1) g0.nd rfl (.inl rfl)) (fun _ _ _ _ _ => ptsx_nil) (fun _ _ _ _ _ => (px_c (g0.blk _ _ _ _ _) c_value_key rfl rfl (pak_f (px_var (i := 1) rfl (.inl rfl) rfl rfl) pak_nil)))))) pak_nil))))
theorem ok_in_order {f : Addr} {fd : FuncData} (F : Fun K "in_order" "in_order" s_in_order f fd) (T : Txt mg) {f_place_key : Addr} {fd_place_key : FuncData} (c_place_key : DefOk P w K mg base "place_key" f_place_key fd_place_key ["key"] [true] false g_place_key 3) : FnOk P w K mg base (L2.CX P w) 6 f fd ["keys"] (spM K mg [true] true g_in_order) :=
  fn_ok (Ωl := []) (Ω' := []) F sc_in_order [true] true m_in_order rfl fun cdv A outer s H E g0 =>
    (pys_cons (py_setO (Ω' := [1]) (i := 1) g0 rfl rfl rfl (.inl rfl) (po_lst paf_nil)) (pys_cons (py_for g0 rfl (pis_x (PO.x (po_sortKf g0 c_place_key rfl rfl T.n_sorted rfl (pb_var (i := 0) rfl (.inl rfl))))) (tgu_name rfl rfl) (pg_name (i := 2) g0.nd rfl (.inl rfl)) (pys_one (py_if (Ω' := [1]) rfl (ptx_w (pwx_or (ptx_cmp (op_eqD g0.u64) (nomark _) nox_eq rb_eq (pb_var (i := 1) rfl (.inl rfl)) (PX.b (PO.x (po_lst paf_nil)))) (pwx_or1 (ptx_cmp (op_neD g0.u64) (nomark _) nox_ne rb_ne (PX.b (px_ix (fun _ _ => rfl) (pb_var (i := 1) rfl (.inl rfl)) (PX.b (px_neg px_int)))) (pb_var (i := 2) rfl (.inl rfl)))))) (pys_one (py_app (i := 1) rfl rfl rfl (pe_bm PySem.F.plainAttrs_list PySem.F.slot_list_append PySem.F.type_list_append mt_append (pe_var (i := 1) rfl (.inl rfl)) (pa_cons (px_var (i := 2) rfl (.inl rfl) rfl rfl) pa_nil)))) pys_nil))) (pys_one (py_retV (i := 1) rfl rfl (.inl rfl)))))
theorem ok_whole_of {f : Addr} {fd : FuncData} (F : Fun K "whole_of" "whole_of" s_whole_of f fd) (T : Txt mg) : FnOk P w K mg base (L2.CX P w) 1 f fd ["ladder"] (spM K mg [true] false g_whole_of) :=
  fn_ok (Ωl := []) (Ω' := []) F sc_whole_of [true] false m_whole_of rfl fun cdv A outer s H E g0 =>
    (pys_one (py_ret rfl (px_bi cr_lenA nox_len rc_len rfl T.n_len PySem.boot_len (pak_b (PX.b (px_ix (fun _ _ => rfl) (pb_var (i := 0) rfl (.inl rfl)) (PX.b px_int))) pak_nil))))
theorem ok_value_of {f : Addr} {fd : FuncData} (F : Fun K "value_of" "value_of" s_value_of f fd) (T : Txt mg) : FnOk P w K mg base (L2.CX P w) 1 f fd ["line", "level"] (spM K mg [true, true] false g_value_of) :=
  fn_ok (Ωl := []) (Ω' := []) F sc_value_of [true, true] false m_value_of rfl fun cdv A outer s H E g0 =>
    (pys_cons (py_if (Ω' := []) rfl (ptx_cmp (op_eqD g0.u64) (nomark _) nox_eq rb_eq (pb_var (i := 1) rfl (.inl rfl)) (PX.b (px_bi cr_lenA nox_len rc_len rfl T.n_len PySem.boot_len (pak_b (pb_var (i := 0) rfl (.inl rfl)) pak_nil)))) (pys_one (py_ret rfl px_non)) pys_nil) (pys_one (py_ret rfl (px_ix (fun _ _ => rfl) (pb_var (i := 0) rfl (.inl rfl)) (pb_var (i := 1) rfl (.inl rfl))))))
theorem ok_values_at {f : Addr} {fd : FuncData} (F : Fun K "values_at" "values_at" s_values_at f fd) (T : Txt mg) {f_value_of : Addr} {fd_value_of : FuncData} (c_value_of : DefOk P w K mg base "value_of" f_value_of fd_value_of ["line", "level"] [true, true] false g_value_of 1) {f_in_order : Addr} {fd_in_order : FuncData} (c_in_order : DefOk P w K mg base "in_order" f_in_order fd_in_order ["keys"] [true] true g_in_order 6) : FnOk P w K mg base (L2.CX P w) 7 f fd ["ladder", "level"] (spM K mg [true, true] true g_values_at) :=
  fn_ok (Ωl := []) (Ω' := []) F sc_values_at [true, true] true m_values_at rfl fun cdv A outer s H E g0 =>
    (pys_cons (py_set (Ω' := []) (i := 2) g0 rfl rfl rfl (.inl rfl) (PO.x (po_c g0 c_in_order rfl rfl (pak_b (PX.b (PO.x (po_lc (own := [("line", 4)]) g0 (pic_b (pb_var (i := 0) rfl (.inl rfl))) (blkOk_by (own := [("line", 4)]) (N := N_values_at) (sc := defScope s_values_at) (by decide +kernel)) (tgu_name rfl rfl) rfl rfl (fun _ _ _ _ _ => pg_name (i := 4) g0.nd rfl (.inl rfl)) (fun _ _ _ _ _ => ptsx_nil) (fun _ _ _ _ _ => (px_tup (paf_cons (px_c (g0.blk _ _ _ _ _) c_value_of rfl rfl (pak_b (pb_var (i := 4) rfl (.inl rfl)) (pak_b (pb_var (i := 1) rfl (.inr (.inl rfl))) pak_nil))) paf_nil)))))) pak_nil)))) (pys_one (py_retO rfl (po_lc (own := [("key", 3)]) g0 (pic_b (pb_var (i := 2) rfl (.inl rfl))) (blkOk_by (own := [("key", 3)]) (N := N_values_at) (sc := defScope s_values_at) (by decide +kernel)) (tgu_name rfl rfl) rfl rfl (fun _ _ _ _ _ => pg_name (i := 3) g0.nd rfl (.inl rfl)) (fun _ _ _ _ _ => ptsx_nil) (fun _ _ _ _ _ => (px_ix (fun _ _ => rfl) (pb_var (i := 3) rfl (.inl rfl)) (PX.b px_int)))))))
theorem ok_up {f : Addr} {fd : FuncData} (F : Fun K "up" "up" s_up f fd) (T : Txt mg) {f_value_of : Addr} {fd_value_of : FuncData} (c_value_of : DefOk P w K mg base "value_of" f_value_of fd_value_of ["line", "level"] [true, true] false g_value_of 1) : FnOk P w K mg base (L2.CX P w) 2 f fd ["ladder", "value", "level"] (spM K mg [true, true, true] false g_up) :=
  fn_ok (Ωl := []) (Ω' := []) F sc_up [true, true, true] false m_up rfl fun cdv A outer s H E g0 =>
    (pys_cons (py_for g0 rfl (pis_b (i := 0) rfl (.inl rfl) rfl) (tgu_name rfl rfl) (pg_name (i := 3) g0.nd rfl (.inl rfl)) (pys_one (py_if (Ω' := []) rfl (ptx_cmp (op_eqD g0.u64) (nomark _) nox_eq rb_eq (PX.b (px_ix (fun _ _ => rfl) (pb_var (i := 3) rfl (.inl rfl)) (PX.b px_int))) (pb_var (i := 1) rfl (.inl rfl))) (pys_one (py_ret rfl (px_c g0 c_value_of rfl rfl (pak_b (pb_var (i := 3) rfl (.inl rfl)) (pak_b (pb_var (i := 2) rfl (.inl rfl)) pak_nil))))) pys_nil))) (pys_one (py_ret rfl px_non)))
theorem ok__law_cell_at {f : Addr} {fd : FuncData} (F : Fun K "_law_cell_at" "_law_cell_at" s__law_cell_at f fd) (T : Txt mg) : FnOk P w K mg base (L2.CX P w) 1 f fd ["_law_script", "_law_k"] (spM K mg [true, true] false g__law_cell_at) :=
  fn_ok (Ωl := []) (Ω' := []) F sc__law_cell_at [true, true] false m__law_cell_at rfl fun cdv A outer s H E g0 =>
    (pys_cons (py_if (Ω' := []) rfl (ptx_cmp (or_lt g0.u64) (nomark _) nox_lt rb_lt (pb_var (i := 1) rfl (.inl rfl)) (PX.b (px_bi cr_lenA nox_len rc_len rfl T.n_len PySem.boot_len (pak_b (pb_var (i := 0) rfl (.inl rfl)) pak_nil)))) (pys_one (py_ret rfl (px_ix (fun _ _ => rfl) (pb_var (i := 0) rfl (.inl rfl)) (pb_var (i := 1) rfl (.inl rfl))))) pys_nil) (pys_one (py_ret rfl px_int)))
theorem ok__law_stream {f : Addr} {fd : FuncData} (F : Fun K "_law_stream" "_law_stream" s__law_stream f fd) (T : Txt mg) : FnOk P w K mg base (L2.CX P w) 1 f fd ["_law_cell", "_law_place"] (spM K mg [true, true] false g__law_stream) :=
  fn_ok (Ωl := []) (Ω' := []) F sc__law_stream [true, true] false m__law_stream rfl fun cdv A outer s H E g0 =>
    (pys_cons (py_set (Ω' := []) (i := 2) g0 rfl rfl rfl (.inl rfl) (px_op op_modN nox_mod rb_mod (PX.b (px_op or_add nox_add rb_add (pb_var (i := 0) rfl (.inl rfl)) (PX.b (px_op or_mul nox_mul rb_mul (PX.b px_int) (pb_var (i := 1) rfl (.inl rfl)))))) (PX.b px_int))) (pys_cons (py_setO (Ω' := [3]) (i := 3) g0 rfl rfl rfl (.inl rfl) (po_lst paf_nil)) (pys_cons (py_for g0 rfl (pis_range1 rfl T.n_range (paf_cons px_int paf_nil)) (tgu_name rfl rfl) (pg_name (i := 4) g0.nd rfl (.inl rfl)) (pys_cons (py_set (Ω' := [3]) (i := 2) g0 rfl rfl rfl (.inl rfl) (px_op op_modN nox_mod rb_mod (PX.b (px_op or_add nox_add rb_add (PX.b (px_op or_add nox_add rb_add (PX.b (px_op or_mul nox_mul rb_mul (pb_var (i := 2) rfl (.inl rfl)) (PX.b px_int))) (PX.b (px_op or_mul nox_mul rb_mul (PX.b px_int) (pb_var (i := 4) rfl (.inl rfl)))))) (PX.b px_int))) (PX.b px_int))) (pys_one (py_app (i := 3) rfl rfl rfl (pe_bm PySem.F.plainAttrs_list PySem.F.slot_list_append PySem.F.type_list_append mt_append (pe_var (i := 3) rfl (.inl rfl)) (pa_cons (px_op or_fdiv nox_fdiv rb_fdiv (pb_var (i := 2) rfl (.inl rfl)) (PX.b px_int)) pa_nil)))))) (pys_one (py_ret rfl (px_slice (pb_var (i := 3) rfl (.inl rfl)) (pp_some px_int) pp_none))))))
theorem ok__law_word {f : Addr} {fd : FuncData} (F : Fun K "_law_word" "_law_word" s__law_word f fd) (T : Txt mg) : FnOk P w K mg base (L2.CX P w) 1 f fd ["_law_cell", "_law_many"] (spM K mg [true, false] false g__law_word) :=
  fn_ok (Ωl := []) (Ω' := []) F sc__law_word [true, false] false m__law_word rfl fun cdv A outer s H E g0 =>
    (pys_cons (py_set (Ω' := []) (i := 2) g0 rfl rfl rfl (.inl rfl) px_str) (pys_cons (py_set (Ω' := []) (i := 3) g0 rfl rfl rfl (.inl rfl) (px_ix (fun _ _ => rfl) (pb_var (i := 2) rfl (.inl rfl)) (PX.b (px_op op_modN nox_mod rb_mod (pb_var (i := 0) rfl (.inl rfl)) (PX.b px_int))))) (pys_cons (py_for g0 rfl (pis_range1 rfl T.n_range (paf_cons (px_var (i := 1) rfl (.inl rfl) rfl rfl) paf_nil)) (tgu_name rfl rfl) (pg_name (i := 4) g0.nd rfl (.inl rfl)) (pys_one (py_set (Ω' := []) (i := 3) g0 rfl rfl rfl (.inl rfl) (px_op or_add nox_add rb_add (pb_var (i := 3) rfl (.inl rfl)) (PX.b (px_ix (fun _ _ => rfl) (pb_var (i := 2) rfl (.inl rfl)) (PX.b (px_op op_modN nox_mod rb_mod (PX.b (px_op or_fdiv nox_fdiv rb_fdiv (pb_var (i := 0) rfl (.inl rfl)) (PX.b (px_op or_add nox_add rb_add (pb_var (i := 4) rfl (.inl rfl)) (PX.b px_int))))) (PX.b px_int))))))))) (pys_one (py_ret rfl (px_var (i := 3) rfl (.inl rfl) rfl rfl))))))
theorem ok__law_value {f : Addr} {fd : FuncData} (F : Fun K "_law_value" "_law_value" s__law_value f fd) (T : Txt mg) {f__law_word : Addr} {fd__law_word : FuncData} (c__law_word : DefOk P w K mg base "_law_word" f__law_word fd__law_word ["_law_cell", "_law_many"] [true, false] false g__law_word 1) : FnOk P w K mg base (L2.CX P w) 2 f fd ["_law_way", "_law_cell", "_law_k"] (spM K mg [true, true, true] false g__law_value) :=
  fn_ok (Ωl := []) (Ω' := []) F sc__law_value [true, true, true] false m__law_value rfl fun cdv A outer s H E g0 =>
    (pys_cons (py_set (Ω' := []) (i := 3) g0 rfl rfl rfl (.inl rfl) (px_op op_modN nox_mod rb_mod (PX.b (px_op or_fdiv nox_fdiv rb_fdiv (pb_var (i := 1) rfl (.inl rfl)) (PX.b px_int))) (PX.b (px_op op_pow nox_pow rb_pow (PX.b px_int) (PX.b px_int))))) (pys_cons (py_if (Ω' := []) rfl (ptx_cmp (op_eqD g0.u64) (nomark _) nox_eq rb_eq (pb_var (i := 0) rfl (.inl rfl)) (PX.b px_int)) (pys_one (py_ret rfl (px_op or_add nox_add rb_add (pb_var (i := 3) rfl (.inl rfl)) (pb_var (i := 2) rfl (.inl rfl))))) pys_nil) (pys_cons (py_if (Ω' := []) rfl (ptx_cmp (op_eqD g0.u64) (nomark _) nox_eq rb_eq (pb_var (i := 0) rfl (.inl rfl)) (PX.b px_int)) (pys_one (py_ret rfl (px_op op_sub nox_sub rb_sub (PX.b (px_op op_sub nox_sub rb_sub (PX.b px_int) (pb_var (i := 3) rfl (.inl rfl)))) (pb_var (i := 2) rfl (.inl rfl))))) pys_nil) (pys_cons (py_set (Ω' := []) (i := 4) g0 rfl rfl rfl (.inl rfl) (px_c g0 c__law_word rfl rfl (pak_b (PX.b (px_op or_fdiv nox_fdiv rb_fdiv (pb_var (i := 1) rfl (.inl rfl)) (PX.b px_int))) (pak_f (px_op op_modN nox_mod rb_mod (pb_var (i := 1) rfl (.inl rfl)) (PX.b px_int)) pak_nil)))) (pys_cons (py_if (Ω' := []) rfl (ptx_cmp (op_eqD g0.u64) (nomark _) nox_eq rb_eq (pb_var (i := 0) rfl (.inl rfl)) (PX.b px_int)) (pys_one (py_ret rfl (px_op or_add nox_add rb_add (pb_var (i := 4) rfl (.inl rfl)) (PX.b (px_zfill (px_ty cr_strA nox_str rc_str rfl T.n_str (by decide +kernel) (pak_b (pb_var (i := 2) rfl (.inl rfl)) pak_nil)) (PX.b (px_op or_add nox_add rb_add (PX.b px_int) (PX.b (px_op op_modN nox_mod rb_mod (PX.b (px_op or_fdiv nox_fdiv rb_fdiv (pb_var (i := 1) rfl (.inl rfl)) (PX.b px_int))) (PX.b px_int)))))))))) pys_nil) (pys_cons (py_set (Ω' := []) (i := 5) g0 rfl rfl rfl (.inl rfl) px_str) (pys_cons (py_set (Ω' := []) (i := 6) g0 rfl rfl rfl (.inl rfl) (px_op op_modN nox_mod rb_mod (PX.b (px_op or_fdiv nox_fdiv rb_fdiv (pb_var (i := 1) rfl (.inl rfl)) (PX.b px_int))) (PX.b (px_op or_add nox_add rb_add (PX.b (px_bi cr_lenA nox_len rc_len rfl T.n_len PySem.boot_len (pak_b (pb_var (i := 4) rfl (.inl rfl)) pak_nil))) (PX.b px_int))))) (pys_cons (py_set (Ω' := []) (i := 7) g0 rfl rfl rfl (.inl rfl) (px_op or_add nox_add rb_add (PX.b (px_ix (fun _ _ => rfl) (pb_var (i := 5) rfl (.inl rfl)) (PX.b (px_op or_fdiv nox_fdiv rb_fdiv (pb_var (i := 2) rfl (.inl rfl)) (PX.b px_int))))) (PX.b (px_ix (fun _ _ => rfl) (pb_var (i := 5) rfl (.inl rfl)) (PX.b (px_op op_modN nox_mod rb_mod (PX.b (px_op or_add nox_add rb_add (pb_var (i := 2) rfl (.inl rfl)) (PX.b (px_op or_fdiv nox_fdiv rb_fdiv (pb_var (i := 1) rfl (.inl rfl)) (PX.b px_int))))) (PX.b px_int))))))) (pys_one (py_ret rfl (px_op or_add nox_add rb_add (PX.b (px_op or_add nox_add rb_add (PX.b (px_slice (pb_var (i := 4) rfl (.inl rfl)) pp_none (pp_some (px_var (i := 6) rfl (.inl rfl) rfl rfl)))) (pb_var (i := 7) rfl (.inl rfl)))) (PX.b (px_slice (pb_var (i := 4) rfl (.inl rfl)) (pp_some (px_var (i := 6) rfl (.inl rfl) rfl rfl)) pp_none)))))))))))))
theorem ok__law_ladder {f : Addr} {fd : FuncData} (F : Fun K "_law_ladder" "_law_ladder" s__law_ladder f fd) (T : Txt mg) {f__law_stream : Addr} {fd__law_stream : FuncData} (c__law_stream : DefOk P w K mg base "_law_stream" f__law_stream fd__law_stream ["_law_cell", "_law_place"] [true, true] false g__law_stream 1) {f__law_value : Addr} {fd__law_value : FuncData} (c__law_value : DefOk P w K mg base "_law_value" f__law_value fd__law_value ["_law_way", "_law_cell", "_law_k"] [true, true, true] false g__law_value 2) : FnOk P w K mg base (L2.CX P w) 3 f fd ["_law_cell", "_law_many", "_law_places"] (spM K mg [true, false, false] true g__law_ladder) :=
  fn_ok (Ωl := []) (Ω' := []) F sc__law_ladder [true, false, false] true m__law_ladder rfl fun cdv A outer s H E g0 =>
    (pys_cons (py_set (Ω' := []) (i := 3) g0 rfl rfl rfl (.inl rfl) (px_c g0 c__law_stream rfl rfl (pak_b (pb_var (i := 0) rfl (.inl rfl)) (pak_b (pb_var (i := 2) rfl (.inl rfl)) pak_nil)))) (pys_cons (py_setO (Ω' := [4]) (i := 4) g0 rfl rfl rfl (.inl rfl) (po_lst (paf_cons px_int paf_nil))) (pys_cons (py_for g0 rfl (pis_range2 rfl T.n_range (paf_cons px_int (paf_cons px_int paf_nil))) (tgu_name rfl rfl) (pg_name (i := 5) g0.nd rfl (.inl rfl)) (pys_one (py_app (i := 4) rfl rfl rfl (pe_bm PySem.F.plainAttrs_list PySem.F.slot_list_append PySem.F.type_list_append mt_append (pe_var (i := 4) rfl (.inl rfl)) (pa_cons (px_ix (fun _ _ => rfl) (PX.b (PO.x (po_lst (paf_cons (px_op or_add nox_add rb_add (PX.b px_int) (PX.b (px_op op_modN nox_mod rb_mod (PX.b (px_ix (fun _ _ => rfl) (pb_var (i := 3) rfl (.inl rfl)) (pb_var (i := 5) rfl (.inl rfl)))) (PX.b px_int)))) (paf_cons (px_op or_add nox_add rb_add (PX.b px_int) (PX.b (px_op op_modN nox_mod rb_mod (PX.b (px_ix (fun _ _ => rfl) (pb_var (i := 3) rfl (.inl rfl)) (pb_var (i := 5) rfl (.inl rfl)))) (PX.b px_int)))) (paf_cons px_int (paf_cons px_int paf_nil))))))) (PX.b (px_op op_modN nox_mod rb_mod (PX.b (px_op or_fdiv nox_fdiv rb_fdiv (PX.b (px_ix (fun _ _ => rfl) (pb_var (i := 3) rfl (.inl rfl)) (pb_var (i := 5) rfl (.inl rfl)))) (PX.b px_int))) (PX.b px_int)))) pa_nil))))) (pys_cons (py_perm (Ω' := [4, 6]) (py_setO (Ω' := [6, 4]) (i := 6) g0 rfl rfl rfl (.inl rfl) (po_lst paf_nil))) (pys_cons (py_for g0 rfl (pis_range1 rfl T.n_range (paf_cons (px_var (i := 1) rfl (.inl rfl) rfl rfl) paf_nil)) (tgu_name rfl rfl) (pg_name (i := 7) g0.nd rfl (.inl rfl)) (pys_loseE 9 (Ω' := [4, 6]) (Ω1 := [4, 6, 9]) rfl (pys_cons (py_set (Ω' := [4, 6]) (i := 8) g0 rfl rfl rfl (.inl rfl) (px_op op_modN nox_mod rb_mod (PX.b (px_op or_add nox_add rb_add (PX.b (px_op or_mul nox_mul rb_mul (pb_var (i := 7) rfl (.inl rfl)) (PX.b (px_op or_add nox_add rb_add (PX.b px_int) (PX.b (px_op op_modN nox_mod rb_mod (PX.b (px_ix (fun _ _ => rfl) (pb_var (i := 3) rfl (.inl rfl)) (PX.b px_int))) (PX.b px_int))))))) (PX.b (px_ix (fun _ _ => rfl) (pb_var (i := 3) rfl (.inl rfl)) (PX.b px_int))))) (PX.b px_int))) (pys_cons (py_perm (Ω' := [4, 6, 9]) (py_setO (Ω' := [9, 4, 6]) (i := 9) g0 rfl rfl rfl (.inl rfl) (po_lst paf_nil))) (pys_cons (py_for g0 rfl (pis_range1 rfl T.n_range (paf_cons (px_var (i := 2) rfl (.inl rfl) rfl rfl) paf_nil)) (tgu_name rfl rfl) (pg_name (i := 5) g0.nd rfl (.inl rfl)) (pys_cons (py_if (Ω' := [4, 6, 9]) rfl (ptx_cmp op_gt (nomark _) nox_gt rb_gt (pb_var (i := 5) rfl (.inl rfl)) (PX.b px_int)) (pys_one (py_set (Ω' := [4, 6, 9]) (i := 8) g0 rfl rfl rfl (.inl rfl) (px_op op_modN nox_mod rb_mod (PX.b (px_op or_add nox_add rb_add (PX.b (px_op or_mul nox_mul rb_mul (pb_var (i := 8) rfl (.inl rfl)) (PX.b (px_op or_add nox_add rb_add (PX.b px_int) (PX.b (px_op op_modN nox_mod rb_mod (PX.b (px_ix (fun _ _ => rfl) (pb_var (i := 3) rfl (.inl rfl)) (PX.b (px_op or_add nox_add rb_add (PX.b px_int) (pb_var (i := 5) rfl (.inl rfl)))))) (PX.b px_int))))))) (PX.b (px_ix (fun _ _ => rfl) (pb_var (i := 3) rfl (.inl rfl)) (PX.b (px_op or_add nox_add rb_add (PX.b px_int) (pb_var (i := 5) rfl (.inl rfl)))))))) (PX.b (px_ix (fun _ _ => rfl) (pb_var (i := 4) rfl (.inl rfl)) (pb_var (i := 5) rfl (.inl rfl))))))) pys_nil) (pys_cons (py_set (Ω' := [4, 6, 9]) (i := 10) g0 rfl rfl rfl (.inl rfl) (px_op or_add nox_add rb_add (pb_var (i := 0) rfl (.inl rfl)) (PX.b (px_op or_mul nox_mul rb_mul (PX.b (px_op or_mul nox_mul rb_mul (pb_var (i := 5) rfl (.inl rfl)) (PX.b (px_op op_modN nox_mod rb_mod (PX.b (px_ix (fun _ _ => rfl) (pb_var (i := 3) rfl (.inl rfl)) (PX.b px_int))) (PX.b px_int))))) (PX.b px_int))))) (pys_one (py_app (i := 9) rfl rfl rfl (pe_bm PySem.F.plainAttrs_list PySem.F.slot_list_append PySem.F.type_list_append mt_append (pe_var (i := 9) rfl (.inl rfl)) (pa_cons (px_c g0 c__law_value rfl rfl (pak_b (PX.b (px_op op_modN nox_mod rb_mod (PX.b (px_op or_add nox_add rb_add (PX.b (px_ix (fun _ _ => rfl) (pb_var (i := 3) rfl (.inl rfl)) (PX.b (px_op or_add nox_add rb_add (PX.b px_int) (pb_var (i := 5) rfl (.inl rfl)))))) (PX.b (px_op or_mul nox_mul rb_mul (pb_var (i := 8) rfl (.inl rfl)) (PX.b (px_op op_modN nox_mod rb_mod (PX.b (px_ix (fun _ _ => rfl) (pb_var (i := 3) rfl (.inl rfl)) (PX.b px_int))) (PX.b px_int))))))) (PX.b px_int))) (pak_b (pb_var (i := 10) rfl (.inl rfl)) (pak_b (pb_var (i := 8) rfl (.inl rfl)) pak_nil)))) pa_nil))))))) (pys_one (py_app (i := 6) rfl rfl rfl (pe_bm PySem.F.plainAttrs_list PySem.F.slot_list_append PySem.F.type_list_append mt_append (pe_var (i := 6) rfl (.inl rfl)) (pa_cons (px_ty call_tuple_of nox_tup rc_tup rfl T.n_tuple (by decide +kernel) (pak_b (pb_var (i := 9) rfl (.inl rfl)) pak_nil)) pa_nil))))))))) (pys_one (py_retV (i := 6) rfl rfl (.inl rfl))))))))
theorem ok__law_whole {f : Addr} {fd : FuncData} (F : Fun K "_law_whole" "_law_whole" s__law_whole f fd) (T : Txt mg) : FnOk P w K mg base (L2.CX P w) 1 f fd ["_law_found"] (spM K mg [true] false g__law_whole) :=
  fn_ok (Ωl := []) (Ω' := []) F sc__law_whole [true] false m__law_whole rfl fun cdv A outer s H E g0 =>
    (pys_one (py_ret rfl (px_and (px_isi rfl T.n_isinstance rfl T.n_int (by decide +kernel) rfl (pb_var (i := 0) rfl (.inl rfl))) (px_one (px_not (px_isi rfl T.n_isinstance rfl T.n_bool (by decide +kernel) rfl (pb_var (i := 0) rfl (.inl rfl))))))))
theorem ok__law_rank {f : Addr} {fd : FuncData} (F : Fun K "_law_rank" "_law_rank" s__law_rank f fd) (T : Txt mg) : FnOk P w K mg base (L2.CX P w) 1 f fd ["_law_value_here"] (spM K mg [false] false g__law_rank) :=
  fn_ok (Ωl := []) (Ω' := []) F sc__law_rank [false] false m__law_rank rfl fun cdv A outer s H E g0 =>
    (pys_cons (py_if (Ω' := []) rfl (ptx_cmp or_is (nomark _) nox_is rb_is (pb_var (i := 0) rfl (.inl rfl)) (PX.b px_non)) (pys_one (py_ret rfl (px_tup (paf_cons px_int (paf_cons px_int (paf_cons px_str paf_nil)))))) pys_nil) (pys_cons (py_if (Ω' := []) rfl (ptx_val (px_isi rfl T.n_isinstance rfl T.n_int (by decide +kernel) rfl (pb_var (i := 0) rfl (.inl rfl)))) (pys_one (py_ret rfl (px_tup (paf_cons px_int (paf_cons (px_var (i := 0) rfl (.inl rfl) rfl rfl) (paf_cons px_str paf_nil)))))) pys_nil) (pys_one (py_ret rfl (px_tup (paf_cons px_int (paf_cons px_int (paf_cons (px_var (i := 0) rfl (.inl rfl) rfl rfl) paf_nil))))))))
theorem ok__law_good {f : Addr} {fd : FuncData} (F : Fun K "_law_good" "_law_good" s__law_good f fd) (T : Txt mg) {f__law_rank : Addr} {fd__law_rank : FuncData} (c__law_rank : DefOk P w K mg base "_law_rank" f__law_rank fd__law_rank ["_law_value_here"] [false] false g__law_rank 1) : FnOk P w K mg base (L2.CX P w) 2 f fd ["_law_found", "_law_due"] (spM K mg [true, true] false g__law_good) :=
  fn_ok (Ωl := []) (Ω' := []) F sc__law_good [true, true] false m__law_good rfl fun cdv A outer s H E g0 =>
    (pys_cons (py_if (Ω' := []) rfl (ptx_w (pwx_or (ptx_not (ptx_val (px_isi rfl T.n_isinstance rfl T.n_list (by decide +kernel) rfl (pb_var (i := 0) rfl (.inr (.inl rfl)))))) (pwx_or1 (ptx_val (px_bi (cr_any g0.hc) nox_any rc_any rfl T.n_any (by decide +kernel) (pak_b (PX.b (PO.x (po_lc (own := [("_law_value_here", 3)]) g0 (pic_b (pb_var (i := 0) rfl (.inr (.inl rfl)))) (blkOk_by (own := [("_law_value_here", 3)]) (N := N__law_good) (sc := defScope s__law_good) (by decide +kernel)) (tgu_name rfl rfl) rfl rfl (fun _ _ _ _ _ => pg_name (i := 3) g0.nd rfl (.inl rfl)) (fun _ _ _ _ _ => ptsx_nil) (fun _ _ _ _ _ => (px_isi rfl T.n_isinstance rfl T.n_bool (by decide +kernel) rfl (pb_var (i := 3) rfl (.inl rfl))))))) pak_nil)))))) (pys_one (py_ret rfl px_bl)) pys_nil) (pys_cons (py_for g0 rfl (pis_range2 rfl T.n_range (paf_cons px_int (paf_cons (px_bi cr_lenA nox_len rc_len rfl T.n_len PySem.boot_len (pak_b (pb_var (i := 0) rfl (.inr (.inl rfl))) pak_nil)) paf_nil))) (tgu_name rfl rfl) (pg_name (i := 2) g0.nd rfl (.inl rfl)) (pys_one (py_if (Ω' := []) rfl (ptx_not (ptx_cmp (or_lt g0.u64) (nomark _) nox_lt rb_lt (PX.b (px_c g0 c__law_rank rfl rfl (pak_f (px_ix (fun _ _ => rfl) (pb_var (i := 0) rfl (.inr (.inl rfl))) (PX.b (px_op op_sub nox_sub rb_sub (pb_var (i := 2) rfl (.inl rfl)) (PX.b px_int)))) pak_nil))) (PX.b (px_c g0 c__law_rank rfl rfl (pak_f (px_ix (fun _ _ => rfl) (pb_var (i := 0) rfl (.inr (.inl rfl))) (pb_var (i := 2) rfl (.inl rfl))) pak_nil))))) (pys_one (py_ret rfl px_bl)) pys_nil))) (pys_one (py_ret rfl (px_and (px_bi (cr_all g0.hc) nox_all rc_all rfl T.n_all (by decide +kernel) (pak_b (PX.b (PO.x (po_lc (own := [("_law_value_here", 3)]) g0 (pic_b (pb_var (i := 0) rfl (.inr (.inl rfl)))) (blkOk_by (own := [("_law_value_here", 3)]) (N := N__law_good) (sc := defScope s__law_good) (by decide +kernel)) (tgu_name rfl rfl) rfl rfl (fun _ _ _ _ _ => pg_name (i := 3) g0.nd rfl (.inl rfl)) (fun _ _ _ _ _ => ptsx_nil) (fun _ _ _ _ _ => (px_cmp (or_in (g0.blk _ _ _ _ _)) rfl nox_in rb_in (pb_var (i := 3) rfl (.inl rfl)) (pb_var (i := 1) rfl (.inr (.inl rfl)))))))) pak_nil)) (px_one (px_bi (cr_all g0.hc) nox_all rc_all rfl T.n_all (by decide +kernel) (pak_b (PX.b (PO.x (po_lc (own := [("_law_value_here", 3)]) g0 (pic_b (pb_var (i := 1) rfl (.inr (.inl rfl)))) (blkOk_by (own := [("_law_value_here", 3)]) (N := N__law_good) (sc := defScope s__law_good) (by decide +kernel)) (tgu_name rfl rfl) rfl rfl (fun _ _ _ _ _ => pg_name (i := 3) g0.nd rfl (.inl rfl)) (fun _ _ _ _ _ => ptsx_nil) (fun _ _ _ _ _ => (px_cmp (or_in (g0.blk _ _ _ _ _)) rfl nox_in rb_in (pb_var (i := 3) rfl (.inl rfl)) (pb_var (i := 0) rfl (.inr (.inl rfl)))))))) pak_nil))))))))
theorem ok_law {f : Addr} {fd : FuncData} (F : Fun K "law" "law" s_law f fd) (T : Txt mg) {f__law_cell_at : Addr} {fd__law_cell_at : FuncData} (c__law_cell_at : DefOk P w K mg base "_law_cell_at" f__law_cell_at fd__law_cell_at ["_law_script", "_law_k"] [true, true] false g__law_cell_at 1) {f__law_ladder : Addr} {fd__law_ladder : FuncData} (c__law_ladder : DefOk P w K mg base "_law_ladder" f__law_ladder fd__law_ladder ["_law_cell", "_law_many", "_law_places"] [true, false, false] true g__law_ladder 3) {f_whole_of : Addr} {fd_whole_of : FuncData} (c_whole_of : DefOk P w K mg base "whole_of" f_whole_of fd_whole_of ["ladder"] [true] false g_whole_of 1) {f__law_whole : Addr} {fd__law_whole : FuncData} (c__law_whole : DefOk P w K mg base "_law_whole" f__law_whole fd__law_whole ["_law_found"] [true] false g__law_whole 1) {f_values_at : Addr} {fd_values_at : FuncData} (c_values_at : DefOk P w K mg base "values_at" f_values_at fd_values_at ["ladder", "level"] [true, true] true g_values_at 7) {f__law_good : Addr} {fd__law_good : FuncData} (c__law_good : DefOk P w K mg base "_law_good" f__law_good fd__law_good ["_law_found", "_law_due"] [true, true] false g__law_good 2) {f_up : Addr} {fd_up : FuncData} (c_up : DefOk P w K mg base "up" f_up fd_up ["ladder", "value", "level"] [true, true, true] false g_up 2) : FnOk P w K mg base (L2.CX P w) 8 f fd ["_law_script"] (spM K mg [true] false g_law) :=
  fn_ok (Ωl := []) (Ω' := []) F sc_law [true] false m_law rfl fun cdv A outer s H E g0 =>
    (pys_cons (py_set (Ω' := []) (i := 1) g0 rfl rfl rfl (.inl rfl) (px_c g0 c__law_cell_at rfl rfl (pak_b (pb_var (i := 0) rfl (.inl rfl)) (pak_b (PX.b px_int) pak_nil)))) (pys_cons (py_set (Ω' := []) (i := 2) g0 rfl rfl rfl (.inl rfl) (px_op or_add nox_add rb_add (PX.b px_int) (PX.b (px_op op_modN nox_mod rb_mod (PX.b (px_op or_fdiv nox_fdiv rb_fdiv (pb_var (i := 1) rfl (.inl rfl)) (PX.b px_int))) (PX.b px_int))))) (pys_cons (py_if (Ω' := []) rfl (ptx_cmp (op_eqD g0.u64) (nomark _) nox_eq rb_eq (PX.b (px_op op_modN nox_mod rb_mod (pb_var (i := 1) rfl (.inl rfl)) (PX.b px_int))) (PX.b px_int)) (pys_one (py_set (Ω' := []) (i := 2) g0 rfl rfl rfl (.inl rfl) (px_op or_add nox_add rb_add (PX.b px_int) (PX.b (px_op op_modN nox_mod rb_mod (PX.b (px_op or_fdiv nox_fdiv rb_fdiv (pb_var (i := 1) rfl (.inl rfl)) (PX.b px_int))) (PX.b px_int)))))) pys_nil) (pys_cons (py_set (Ω' := []) (i := 3) g0 rfl rfl rfl (.inl rfl) (px_op or_add nox_add rb_add (PX.b px_int) (PX.b (px_op op_modN nox_mod rb_mod (PX.b (px_c g0 c__law_cell_at rfl rfl (pak_b (pb_var (i := 0) rfl (.inl rfl)) (pak_b (PX.b px_int) pak_nil)))) (PX.b px_int))))) (pys_cons (py_set (Ω' := []) (i := 4) g0 rfl rfl rfl (.inl rfl) (PO.x (po_c g0 c__law_ladder rfl rfl (pak_b (PX.b (px_c g0 c__law_cell_at rfl rfl (pak_b (pb_var (i := 0) rfl (.inl rfl)) (pak_b (PX.b px_int) pak_nil)))) (pak_f (px_var (i := 2) rfl (.inl rfl) rfl rfl) (pak_f (px_var (i := 3) rfl (.inl rfl) rfl rfl) pak_nil)))))) (pys_cons (py_set (Ω' := []) (i := 5) g0 rfl rfl rfl (.inl rfl) (PO.x (po_ty call_list_of nox_lst rc_lst rfl T.n_list (by decide +kernel) (pak_b (pb_var (i := 4) rfl (.inl rfl)) pak_nil)))) (pys_cons (py_set (Ω' := []) (i := 6) g0 rfl rfl rfl (.inl rfl) (px_c g0 c_whole_of rfl rfl (pak_b (pb_var (i := 5) rfl (.inl rfl)) pak_nil))) (pys_cons (py_if (Ω' := []) rfl (ptx_w (pwx_or (ptx_not (ptx_val (px_c g0 c__law_whole rfl rfl (pak_b (pb_var (i := 6) rfl (.inl rfl)) pak_nil)))) (pwx_or1 (ptx_cmp (op_neD g0.u64) (nomark _) nox_ne rb_ne (pb_var (i := 6) rfl (.inl rfl)) (pb_var (i := 3) rfl (.inl rfl)))))) (pys_one (py_ret rfl px_bl)) pys_nil) (pys_cons (py_for g0 rfl (pis_range1 rfl T.n_range (paf_cons (px_op or_add nox_add rb_add (pb_var (i := 3) rfl (.inl rfl)) (PX.b px_int)) paf_nil)) (tgu_name rfl rfl) (pg_name (i := 7) g0.nd rfl (.inr rfl)) (pys_loseE 9 (Ω' := []) (Ω1 := [9]) rfl (pys_cons (py_set (Ω' := []) (i := 8) g0 rfl rfl rfl (.inl rfl) (PO.x (po_lst (paf_cons px_non paf_nil)))) (pys_cons (py_if (Ω' := []) rfl (ptx_cmp (or_lt g0.u64) (nomark _) nox_lt rb_lt (pb_var (i := 7) rfl (.inr (.inl rfl))) (pb_var (i := 3) rfl (.inl rfl))) (pys_loseE 8 (Ω' := []) (Ω1 := [8]) rfl (pys_one (py_setLc (Ω' := [8]) (own := [("_law_line", 12)]) g0 rfl rfl rfl rfl (sw_true rfl rfl rfl (by decide +kernel)) (pic_b (pb_var (i := 4) rfl (.inl rfl))) (blkOk_by (own := [("_law_line", 12)]) (N := N_law) (sc := defScope s_law) (by decide +kernel)) (tgu_name rfl rfl) rfl rfl (fun _ _ _ _ _ => pg_name (i := 12) g0.nd rfl (.inl rfl)) (fun _ _ _ _ _ => ptsx_nil) (fun _ _ _ _ _ => (px_ix (fun _ _ => rfl) (pb_var (i := 12) rfl (.inl rfl)) (pb_var (i := 7) rfl (.inr (.inl rfl)))))))) pys_nil) (pys_cons (py_setO (Ω' := [9]) (i := 9) g0 rfl rfl rfl (.inl rfl) (po_c g0 c_values_at rfl rfl (pak_b (pb_var (i := 5) rfl (.inl rfl)) (pak_b (pb_var (i := 7) rfl (.inr (.inl rfl))) pak_nil)))) (pys_cons (py_if (Ω' := [9]) rfl (ptx_not (ptx_val (px_c g0 c__law_good rfl rfl (pak_b (pb_var (i := 9) rfl (.inl rfl)) (pak_b (pb_var (i := 8) rfl (.inl rfl)) pak_nil))))) (pys_one (py_ret rfl px_bl)) pys_nil) (pys_cons (py_app (i := 9) rfl rfl rfl (pe_bm PySem.F.plainAttrs_list PySem.F.slot_list_append PySem.F.type_list_append mt_append (pe_var (i := 9) rfl (.inl rfl)) (pa_cons (px_ix (fun _ _ => rfl) (pb_var (i := 9) rfl (.inl rfl)) (PX.b px_int)) pa_nil))) (pys_cons (py_if (Ω' := [9]) rfl (ptx_not (ptx_val (px_c g0 c__law_good rfl rfl (pak_b (PX.b (PO.x (po_c g0 c_values_at rfl rfl (pak_b (pb_var (i := 5) rfl (.inl rfl)) (pak_b (pb_var (i := 7) rfl (.inr (.inl rfl))) pak_nil))))) (pak_b (pb_var (i := 8) rfl (.inl rfl)) pak_nil))))) (pys_one (py_ret rfl px_bl)) pys_nil) (pys_one (py_for g0 rfl (pis_range1 rfl T.n_range (paf_cons (px_var (i := 2) rfl (.inl rfl) rfl rfl) paf_nil)) (tgu_name rfl rfl) (pg_name (i := 10) g0.nd rfl (.inl rfl)) (pys_cons (py_set (Ω' := [9]) (i := 11) g0 rfl rfl rfl (.inl rfl) (px_c g0 c_up rfl rfl (pak_b (pb_var (i := 5) rfl (.inl rfl)) (pak_b (PX.b (px_ix (fun _ _ => rfl) (PX.b (px_ix (fun _ _ => rfl) (pb_var (i := 4) rfl (.inl rfl)) (pb_var (i := 10) rfl (.inl rfl)))) (PX.b px_int))) (pak_b (pb_var (i := 7) rfl (.inr (.inl rfl))) pak_nil))))) (pys_one (py_if (Ω' := [9]) rfl (ptx_w (pwx_or (ptx_val (px_isi rfl T.n_isinstance rfl T.n_bool (by decide +kernel) rfl (pb_var (i := 11) rfl (.inl rfl)))) (pwx_or1 (ptx_cmp (op_neD g0.u64) (nomark _) nox_ne rb_ne (pb_var (i := 11) rfl (.inl rfl)) (PX.b (px_ix (fun _ _ => rfl) (PX.b (PO.x (po_lst (paf_cons px_non (paf_cons (px_ix (fun _ _ => rfl) (pb_var (i := 8) rfl (.inl rfl)) (PX.b (px_op op_modN nox_mod rb_mod (pb_var (i := 10) rfl (.inl rfl)) (PX.b (px_bi cr_lenA nox_len rc_len rfl T.n_len PySem.boot_len (pak_b (pb_var (i := 8) rfl (.inl rfl)) pak_nil)))))) paf_nil))))) (PX.b (px_ty call_int1 nox_int rc_int rfl T.n_int (by decide +kernel) (pak_b (PX.b (px_cmp (or_lt g0.u64) (nomark _) nox_lt rb_lt (pb_var (i := 7) rfl (.inr (.inl rfl))) (pb_var (i := 3) rfl (.inl rfl)))) pak_nil))))))))) (pys_one (py_ret rfl px_bl)) pys_nil))))))))))))) (pys_one (py_ret rfl (px_cmp (op_eqD g0.u64) (nomark _) nox_eq rb_eq (pb_var (i := 5) rfl (.inl rfl)) (pb_var (i := 4) rfl (.inl rfl))))))))))))))
end
theorem all_mk {l : PySem.W.OpenLaw} {w : World} {K : PySem.W.Frag} {h : Heap} {mg : Str → Option Value} {fa : Addr} (X : K.In h) (G : h.Ns mainGlobals mg) (hfa : mg "law" = some (.ref fa))
    {f1 f2 f3 f4 f5 f6 f7 f8 f9 f10 f11 f12 f13 f14 f15 f16 f17 : Addr} {od1 an1 od2 an2 od3 an3 od4 an4 od5 an5 od6 an6 od7 an7 od8 an8 od9 an9 od10 an10 od11 an11 od12 an12 od13 an13 od14 an14 od15 an15 od16 an16 od17 an17 : Option Addr} {sl1 sl2 sl3 sl4 sl5 sl6 sl7 sl8 sl9 sl10 sl11 sl12 sl13 sl14 sl15 sl16 sl17 : Array (Option Value)} {oc1 kV1 dc1 pm1 cd1 ct1 oc2 kV2 dc2 pm2 cd2 ct2 oc3 kV3 dc3 pm3 cd3 ct3 oc4 kV4 dc4 pm4 cd4 ct4 oc5 kV5 dc5 pm5 cd5 ct5 oc6 kV6 dc6 pm6 cd6 ct6 oc7 kV7 dc7 pm7 cd7 ct7 oc8 kV8 dc8 pm8 cd8 ct8 oc9 kV9 dc9 pm9 cd9 ct9 oc10 kV10 dc10 pm10 cd10 ct10 oc11 kV11 dc11 pm11 cd11 ct11 oc12 kV12 dc12 pm12 cd12 ct12 oc13 kV13 dc13 pm13 cd13 ct13 oc14 kV14 dc14 pm14 cd14 ct14 oc15 kV15 dc15 pm15 cd15 ct15 oc16 kV16 dc16 pm16 cd16 ct16 oc17 kV17 dc17 pm17 cd17 ct17 : Value}
    (a1 : PySem.W.nsIn K mainGlobals "is_whole" = some (some (.ref f1))) (l1 : K.lookup f1 = some ⟨oc1, od1, .func (PySem.W.fnOf "is_whole" "is_whole" (defArgs s_is_whole) (defBody s_is_whole) (defScope s_is_whole) .none kV1 dc1 pm1 an1 cd1 ct1), sl1⟩) (d1 : PySem.W.codeIn K cd1 "is_whole" = true) (k1 : PySem.W.keepIn K (.ref f1) = true)
    (a2 : PySem.W.nsIn K mainGlobals "value_key" = some (some (.ref f2))) (l2 : K.lookup f2 = some ⟨oc2, od2, .func (PySem.W.fnOf "value_key" "value_key" (defArgs s_value_key) (defBody s_value_key) (defScope s_value_key) .none kV2 dc2 pm2 an2 cd2 ct2), sl2⟩) (d2 : PySem.W.codeIn K cd2 "value_key" = true) (k2 : PySem.W.keepIn K (.ref f2) = true)
    (a3 : PySem.W.nsIn K mainGlobals "place_key" = some (some (.ref f3))) (l3 : K.lookup f3 = some ⟨oc3, od3, .func (PySem.W.fnOf "place_key" "place_key" (defArgs s_place_key) (defBody s_place_key) (defScope s_place_key) .none kV3 dc3 pm3 an3 cd3 ct3), sl3⟩) (d3 : PySem.W.codeIn K cd3 "place_key" = true) (k3 : PySem.W.keepIn K (.ref f3) = true)
    (a4 : PySem.W.nsIn K mainGlobals "in_order" = some (some (.ref f4))) (l4 : K.lookup f4 = some ⟨oc4, od4, .func (PySem.W.fnOf "in_order" "in_order" (defArgs s_in_order) (defBody s_in_order) (defScope s_in_order) .none kV4 dc4 pm4 an4 cd4 ct4), sl4⟩) (d4 : PySem.W.codeIn K cd4 "in_order" = true) (k4 : PySem.W.keepIn K (.ref f4) = true)
    (a5 : PySem.W.nsIn K mainGlobals "whole_of" = some (some (.ref f5))) (l5 : K.lookup f5 = some ⟨oc5, od5, .func (PySem.W.fnOf "whole_of" "whole_of" (defArgs s_whole_of) (defBody s_whole_of) (defScope s_whole_of) .none kV5 dc5 pm5 an5 cd5 ct5), sl5⟩) (d5 : PySem.W.codeIn K cd5 "whole_of" = true) (k5 : PySem.W.keepIn K (.ref f5) = true)
    (a6 : PySem.W.nsIn K mainGlobals "value_of" = some (some (.ref f6))) (l6 : K.lookup f6 = some ⟨oc6, od6, .func (PySem.W.fnOf "value_of" "value_of" (defArgs s_value_of) (defBody s_value_of) (defScope s_value_of) .none kV6 dc6 pm6 an6 cd6 ct6), sl6⟩) (d6 : PySem.W.codeIn K cd6 "value_of" = true) (k6 : PySem.W.keepIn K (.ref f6) = true)
    (a7 : PySem.W.nsIn K mainGlobals "values_at" = some (some (.ref f7))) (l7 : K.lookup f7 = some ⟨oc7, od7, .func (PySem.W.fnOf "values_at" "values_at" (defArgs s_values_at) (defBody s_values_at) (defScope s_values_at) .none kV7 dc7 pm7 an7 cd7 ct7), sl7⟩) (d7 : PySem.W.codeIn K cd7 "values_at" = true) (k7 : PySem.W.keepIn K (.ref f7) = true)
    (a8 : PySem.W.nsIn K mainGlobals "up" = some (some (.ref f8))) (l8 : K.lookup f8 = some ⟨oc8, od8, .func (PySem.W.fnOf "up" "up" (defArgs s_up) (defBody s_up) (defScope s_up) .none kV8 dc8 pm8 an8 cd8 ct8), sl8⟩) (d8 : PySem.W.codeIn K cd8 "up" = true) (k8 : PySem.W.keepIn K (.ref f8) = true)
    (a9 : PySem.W.nsIn K mainGlobals "_law_cell_at" = some (some (.ref f9))) (l9 : K.lookup f9 = some ⟨oc9, od9, .func (PySem.W.fnOf "_law_cell_at" "_law_cell_at" (defArgs s__law_cell_at) (defBody s__law_cell_at) (defScope s__law_cell_at) .none kV9 dc9 pm9 an9 cd9 ct9), sl9⟩) (d9 : PySem.W.codeIn K cd9 "_law_cell_at" = true) (k9 : PySem.W.keepIn K (.ref f9) = true)
    (a10 : PySem.W.nsIn K mainGlobals "_law_stream" = some (some (.ref f10))) (l10 : K.lookup f10 = some ⟨oc10, od10, .func (PySem.W.fnOf "_law_stream" "_law_stream" (defArgs s__law_stream) (defBody s__law_stream) (defScope s__law_stream) .none kV10 dc10 pm10 an10 cd10 ct10), sl10⟩) (d10 : PySem.W.codeIn K cd10 "_law_stream" = true) (k10 : PySem.W.keepIn K (.ref f10) = true)
    (a11 : PySem.W.nsIn K mainGlobals "_law_word" = some (some (.ref f11))) (l11 : K.lookup f11 = some ⟨oc11, od11, .func (PySem.W.fnOf "_law_word" "_law_word" (defArgs s__law_word) (defBody s__law_word) (defScope s__law_word) .none kV11 dc11 pm11 an11 cd11 ct11), sl11⟩) (d11 : PySem.W.codeIn K cd11 "_law_word" = true) (k11 : PySem.W.keepIn K (.ref f11) = true)
    (a12 : PySem.W.nsIn K mainGlobals "_law_value" = some (some (.ref f12))) (l12 : K.lookup f12 = some ⟨oc12, od12, .func (PySem.W.fnOf "_law_value" "_law_value" (defArgs s__law_value) (defBody s__law_value) (defScope s__law_value) .none kV12 dc12 pm12 an12 cd12 ct12), sl12⟩) (d12 : PySem.W.codeIn K cd12 "_law_value" = true) (k12 : PySem.W.keepIn K (.ref f12) = true)
    (a13 : PySem.W.nsIn K mainGlobals "_law_ladder" = some (some (.ref f13))) (l13 : K.lookup f13 = some ⟨oc13, od13, .func (PySem.W.fnOf "_law_ladder" "_law_ladder" (defArgs s__law_ladder) (defBody s__law_ladder) (defScope s__law_ladder) .none kV13 dc13 pm13 an13 cd13 ct13), sl13⟩) (d13 : PySem.W.codeIn K cd13 "_law_ladder" = true) (k13 : PySem.W.keepIn K (.ref f13) = true)
    (a14 : PySem.W.nsIn K mainGlobals "_law_whole" = some (some (.ref f14))) (l14 : K.lookup f14 = some ⟨oc14, od14, .func (PySem.W.fnOf "_law_whole" "_law_whole" (defArgs s__law_whole) (defBody s__law_whole) (defScope s__law_whole) .none kV14 dc14 pm14 an14 cd14 ct14), sl14⟩) (d14 : PySem.W.codeIn K cd14 "_law_whole" = true) (k14 : PySem.W.keepIn K (.ref f14) = true)
    (a15 : PySem.W.nsIn K mainGlobals "_law_rank" = some (some (.ref f15))) (l15 : K.lookup f15 = some ⟨oc15, od15, .func (PySem.W.fnOf "_law_rank" "_law_rank" (defArgs s__law_rank) (defBody s__law_rank) (defScope s__law_rank) .none kV15 dc15 pm15 an15 cd15 ct15), sl15⟩) (d15 : PySem.W.codeIn K cd15 "_law_rank" = true) (k15 : PySem.W.keepIn K (.ref f15) = true)
    (a16 : PySem.W.nsIn K mainGlobals "_law_good" = some (some (.ref f16))) (l16 : K.lookup f16 = some ⟨oc16, od16, .func (PySem.W.fnOf "_law_good" "_law_good" (defArgs s__law_good) (defBody s__law_good) (defScope s__law_good) .none kV16 dc16 pm16 an16 cd16 ct16), sl16⟩) (d16 : PySem.W.codeIn K cd16 "_law_good" = true) (k16 : PySem.W.keepIn K (.ref f16) = true)
    (a17 : PySem.W.nsIn K mainGlobals "law" = some (some (.ref f17))) (l17 : K.lookup f17 = some ⟨oc17, od17, .func (PySem.W.fnOf "law" "law" (defArgs s_law) (defBody s_law) (defScope s_law) .none kV17 dc17 pm17 an17 cd17 ct17), sl17⟩) (d17 : PySem.W.codeIn K cd17 "law" = true) (k17 : PySem.W.keepIn K (.ref f17) = true)
    (z_all : PySem.W.nsIn K mainGlobals "all" = some none)
    (z_any : PySem.W.nsIn K mainGlobals "any" = some none)
    (z_bool : PySem.W.nsIn K mainGlobals "bool" = some none)
    (z_int : PySem.W.nsIn K mainGlobals "int" = some none)
    (z_isinstance : PySem.W.nsIn K mainGlobals "isinstance" = some none)
    (z_len : PySem.W.nsIn K mainGlobals "len" = some none)
    (z_list : PySem.W.nsIn K mainGlobals "list" = some none)
    (z_range : PySem.W.nsIn K mainGlobals "range" = some none)
    (z_sorted : PySem.W.nsIn K mainGlobals "sorted" = some none)
    (z_str : PySem.W.nsIn K mainGlobals "str" = some none)
    (z_tuple : PySem.W.nsIn K mainGlobals "tuple" = some none)
    : ∃ fd : FuncData, (∀ (s : Shared) (v : Value), BindsTo s fd ⟨[v], []⟩ [("_law_script", v)]) ∧ ∀ base : Heap, K.In base → base.Ns mainGlobals mg → FnOk l.prog w K mg base (L2.CX l.prog w) 8 fa fd ["_law_script"] (spM K mg [true] false g_law) := by
  have e := hfa.symm.trans (PySem.W.mg_of X G a17)
  cases e
  have T : Txt mg := ⟨PySem.W.mg_none_of X G z_all, PySem.W.mg_none_of X G z_any, PySem.W.mg_none_of X G z_bool, PySem.W.mg_none_of X G z_int, PySem.W.mg_none_of X G z_isinstance, PySem.W.mg_none_of X G z_len, PySem.W.mg_none_of X G z_list, PySem.W.mg_none_of X G z_range, PySem.W.mg_none_of X G z_sorted, PySem.W.mg_none_of X G z_str, PySem.W.mg_none_of X G z_tuple⟩
  refine ⟨PySem.W.fnOf "law" "law" (defArgs s_law) (defBody s_law) (defScope s_law) .none kV17 dc17 pm17 an17 cd17 ct17, fun s v => .of_eq rfl, fun base _ _ => ?_⟩
  have F1 := fun_mk (st := s_is_whole) l1 d1 k1
  have c_is_whole : DefOk l.prog w K mg base "is_whole" f1 _ ["thing"] [true] false g_is_whole 1 := ⟨ok_is_whole F1 T , PySem.W.mg_of X G a1, k1, F1.binds (ps := ["thing"]) fun _ _ _ _ _ _ us hl => match us, hl with | [_], _ => rfl⟩
  have F2 := fun_mk (st := s_value_key) l2 d2 k2
  have c_value_key : DefOk l.prog w K mg base "value_key" f2 _ ["thing"] [false] false g_value_key 2 := ⟨ok_value_key F2 T c_is_whole, PySem.W.mg_of X G a2, k2, F2.binds (ps := ["thing"]) fun _ _ _ _ _ _ us hl => match us, hl with | [_], _ => rfl⟩
  have F3 := fun_mk (st := s_place_key) l3 d3 k3
  have c_place_key : DefOk l.prog w K mg base "place_key" f3 _ ["key"] [true] false g_place_key 3 := ⟨ok_place_key F3 T c_value_key, PySem.W.mg_of X G a3, k3, F3.binds (ps := ["key"]) fun _ _ _ _ _ _ us hl => match us, hl with | [_], _ => rfl⟩
  have F4 := fun_mk (st := s_in_order) l4 d4 k4
  have c_in_order : DefOk l.prog w K mg base "in_order" f4 _ ["keys"] [true] true g_in_order 6 := ⟨ok_in_order F4 T c_place_key, PySem.W.mg_of X G a4, k4, F4.binds (ps := ["keys"]) fun _ _ _ _ _ _ us hl => match us, hl with | [_], _ => rfl⟩
  have F5 := fun_mk (st := s_whole_of) l5 d5 k5
  have c_whole_of : DefOk l.prog w K mg base "whole_of" f5 _ ["ladder"] [true] false g_whole_of 1 := ⟨ok_whole_of F5 T , PySem.W.mg_of X G a5, k5, F5.binds (ps := ["ladder"]) fun _ _ _ _ _ _ us hl => match us, hl with | [_], _ => rfl⟩
  have F6 := fun_mk (st := s_value_of) l6 d6 k6
  have c_value_of : DefOk l.prog w K mg base "value_of" f6 _ ["line", "level"] [true, true] false g_value_of 1 := ⟨ok_value_of F6 T , PySem.W.mg_of X G a6, k6, F6.binds (ps := ["line", "level"]) fun _ _ _ _ _ _ us hl => match us, hl with | [_, _], _ => rfl⟩
  have F7 := fun_mk (st := s_values_at) l7 d7 k7
  have c_values_at : DefOk l.prog w K mg base "values_at" f7 _ ["ladder", "level"] [true, true] true g_values_at 7 := ⟨ok_values_at F7 T c_value_of c_in_order, PySem.W.mg_of X G a7, k7, F7.binds (ps := ["ladder", "level"]) fun _ _ _ _ _ _ us hl => match us, hl with | [_, _], _ => rfl⟩
  have F8 := fun_mk (st := s_up) l8 d8 k8
  have c_up : DefOk l.prog w K mg base "up" f8 _ ["ladder", "value", "level"] [true, true, true] false g_up 2 := ⟨ok_up F8 T c_value_of, PySem.W.mg_of X G a8, k8, F8.binds (ps := ["ladder", "value", "level"]) fun _ _ _ _ _ _ us hl => match us, hl with | [_, _, _], _ => rfl⟩
  have F9 := fun_mk (st := s__law_cell_at) l9 d9 k9
  have c__law_cell_at : DefOk l.prog w K mg base "_law_cell_at" f9 _ ["_law_script", "_law_k"] [true, true] false g__law_cell_at 1 := ⟨ok__law_cell_at F9 T , PySem.W.mg_of X G a9, k9, F9.binds (ps := ["_law_script", "_law_k"]) fun _ _ _ _ _ _ us hl => match us, hl with | [_, _], _ => rfl⟩
  have F10 := fun_mk (st := s__law_stream) l10 d10 k10
  have c__law_stream : DefOk l.prog w K mg base "_law_stream" f10 _ ["_law_cell", "_law_place"] [true, true] false g__law_stream 1 := ⟨ok__law_stream F10 T , PySem.W.mg_of X G a10, k10, F10.binds (ps := ["_law_cell", "_law_place"]) fun _ _ _ _ _ _ us hl => match us, hl with | [_, _], _ => rfl⟩
  have F11 := fun_mk (st := s__law_word) l11 d11 k11
  have c__law_word : DefOk l.prog w K mg base "_law_word" f11 _ ["_law_cell", "_law_many"] [true, false] false g__law_word 1 := ⟨ok__law_word F11 T , PySem.W.mg_of X G a11, k11, F11.binds (ps := ["_law_cell", "_law_many"]) fun _ _ _ _ _ _ us hl => match us, hl with | [_, _], _ => rfl⟩
  have F12 := fun_mk (st := s__law_value) l12 d12 k12
  have c__law_value : DefOk l.prog w K mg base "_law_value" f12 _ ["_law_way", "_law_cell", "_law_k"] [true, true, true] false g__law_value 2 := ⟨ok__law_value F12 T c__law_word, PySem.W.mg_of X G a12, k12, F12.binds (ps := ["_law_way", "_law_cell", "_law_k"]) fun _ _ _ _ _ _ us hl => match us, hl with | [_, _, _], _ => rfl⟩
  have F13 := fun_mk (st := s__law_ladder) l13 d13 k13
  have c__law_ladder : DefOk l.prog w K mg base "_law_ladder" f13 _ ["_law_cell", "_law_many", "_law_places"] [true, false, false] true g__law_ladder 3 := ⟨ok__law_ladder F13 T c__law_stream c__law_value, PySem.W.mg_of X G a13, k13, F13.binds (ps := ["_law_cell", "_law_many", "_law_places"]) fun _ _ _ _ _ _ us hl => match us, hl with | [_, _, _], _ => rfl⟩
  have F14 := fun_mk (st := s__law_whole) l14 d14 k14
  have c__law_whole : DefOk l.prog w K mg base "_law_whole" f14 _ ["_law_found"] [true] false g__law_whole 1 := ⟨ok__law_whole F14 T , PySem.W.mg_of X G a14, k14, F14.binds (ps := ["_law_found"]) fun _ _ _ _ _ _ us hl => match us, hl with | [_], _ => rfl⟩
  have F15 := fun_mk (st := s__law_rank) l15 d15 k15
  have c__law_rank : DefOk l.prog w K mg base "_law_rank" f15 _ ["_law_value_here"] [false] false g__law_rank 1 := ⟨ok__law_rank F15 T , PySem.W.mg_of X G a15, k15, F15.binds (ps := ["_law_value_here"]) fun _ _ _ _ _ _ us hl => match us, hl with | [_], _ => rfl⟩
  have F16 := fun_mk (st := s__law_good) l16 d16 k16
  have c__law_good : DefOk l.prog w K mg base "_law_good" f16 _ ["_law_found", "_law_due"] [true, true] false g__law_good 2 := ⟨ok__law_good F16 T c__law_rank, PySem.W.mg_of X G a16, k16, F16.binds (ps := ["_law_found", "_law_due"]) fun _ _ _ _ _ _ us hl => match us, hl with | [_, _], _ => rfl⟩
  exact ok_law (fun_mk (st := s_law) l17 d17 k17) T c__law_cell_at c__law_ladder c_whole_of c__law_whole c_values_at c__law_good c_up
inductive VV | n | i (z : Int) | w (l : List Nat)
deriving DecidableEq
def VV.enc : VV → D
  | .n => .none
  | .i z => .int z
  | .w l => .str ⟨l.toArray⟩
def VV.lt : VV → VV → Bool
  | .n, .n => false
  | .n, _ => true
  | _, .n => false
  | .i a, .i b => decide (a < b)
  | .i _, _ => true
  | _, .i _ => false
  | .w a, .w b => decide (a < b)
theorem VV.irr (a : VV) : a.lt a = false := by
  cases a with
  | n => rfl
  | i z => simp [VV.lt]
  | w l => simp [VV.lt, List.lt_irrefl]
theorem VV.trans {a b c : VV} (h : a.lt b = true) (k : b.lt c = true) : a.lt c = true := by
  cases a <;> cases b <;> cases c <;> simp [VV.lt] at * <;> first
    | omega
    | exact List.lt_trans h k
theorem VV.tri {a b : VV} (h : a ≠ b) : a.lt b = true ∨ b.lt a = true := by
  cases a with
  | n => cases b with
    | n => exact absurd rfl h
    | i z => exact .inl rfl
    | w l => exact .inl rfl
  | i z => cases b with
    | n => exact .inr rfl
    | i y => have : z ≠ y := fun e => h (by rw [e]); simp only [VV.lt, decide_eq_true_eq]; omega
    | w l => exact .inl rfl
  | w l => cases b with
    | n => exact .inr rfl
    | i y => exact .inr rfl
    | w m =>
      have hne : l ≠ m := fun e => h (by rw [e])
      simp only [VV.lt, decide_eq_true_eq]
      by_cases h1 : l < m
      · exact .inl h1
      · by_cases h2 : m < l
        · exact .inr h2
        · exact absurd (List.le_antisymm (List.not_lt.mp h2) (List.not_lt.mp h1)) hne
theorem VV.enc_inj {a b : VV} (h : a.enc = b.enc) : a = b := by
  cases a <;> cases b <;> simp [VV.enc] at h <;> first | rfl | (rw [h])
theorem VV.shp (n : Nat) (a : VV) : shp n a.enc = true := by cases a <;> simp [VV.enc]
theorem str_beq (l m : List Nat) : ((⟨l.toArray⟩ : Str) == ⟨m.toArray⟩) = decide (l = m) := by
  rw [Bool.eq_iff_iff]; simp
theorem VV.eqv (a b : VV) : PyData.eqv a.enc b.enc = decide (a = b) := by
  cases a <;> cases b <;> simp [VV.enc, PyData.eqv, str_beq, Bool.beq_eq_decide_eq]
def lexV : List VV → List VV → Bool
  | [], [] => false
  | [], _ :: _ => true
  | _ :: _, [] => false
  | a :: as, b :: bs => if a = b then lexV as bs else a.lt b
theorem lexV_irr : ∀ a, lexV a a = false
  | [] => rfl
  | a :: as => by simp [lexV, lexV_irr as]
theorem lexV_tri : ∀ {a b : List VV}, a ≠ b → lexV a b = true ∨ lexV b a = true
  | [], [], h => absurd rfl h
  | [], _ :: _, _ => .inl rfl
  | _ :: _, [], _ => .inr rfl
  | a :: as, b :: bs, h => by
    by_cases e : a = b
    · subst e
      have : as ≠ bs := fun z => h (by rw [z])
      simpa [lexV] using lexV_tri this
    · simpa [lexV, e, Ne.symm e] using VV.tri e
theorem lexV_trans : ∀ {a b c : List VV}, lexV a b = true → lexV b c = true → lexV a c = true
  | [], [], _, h, _ => by simp [lexV] at h
  | _ :: _, [], _, h, _ => by simp [lexV] at h
  | [], _ :: _, [], _, k => by simp [lexV] at k
  | [], _ :: _, _ :: _, _, _ => rfl
  | _ :: _, _ :: _, [], _, k => by simp [lexV] at k
  | a :: as, b :: bs, c :: cs, h, k => by
    simp only [lexV] at *
    by_cases e1 : a = b
    · subst e1
      by_cases e2 : a = c
      · subst e2
        simp at h k ⊢
        exact lexV_trans h k
      · simpa [e2] using k
    · simp only [e1, if_false] at h
      by_cases e2 : b = c
      · subst e2
        simpa [e1] using h
      · simp only [e2, if_false] at k
        have hac : a ≠ c := fun z => by
          subst z
          have := VV.trans h k
          rw [VV.irr] at this; cases this
        simpa [hac] using VV.trans h k
def leK (a b : List VV) : Bool := !lexV b a
theorem leK_trans (a b c : List VV) (h : leK a b = true) (k : leK b c = true) : leK a c = true := by
  simp only [leK, Bool.not_eq_true'] at *
  cases q : lexV c a with
  | false => rfl
  | true =>
    exfalso
    by_cases e : a = b
    · subst e; rw [q] at k; cases k
    · rcases lexV_tri e with z | z
      · have := lexV_trans q z; rw [k] at this; cases this
      · rw [h] at z; cases z
theorem leK_total (a b : List VV) : (leK a b || leK b a) = true := by
  simp only [leK, Bool.or_eq_true, Bool.not_eq_true']
  cases q : lexV b a with
  | false => exact .inl rfl
  | true =>
    refine .inr ?_
    cases r : lexV a b with
    | false => rfl
    | true => have := lexV_trans q r; rw [lexV_irr] at this; cases this
/-- adjacent equals are dropped -/
def ddp : List (List VV) → List (List VV) → List (List VV)
  | acc, [] => acc
  | acc, k :: ks => ddp (if acc.getLast? = some k then acc else acc ++ [k]) ks
def inOrd (ks : List (List VV)) : List (List VV) := ddp [] (ks.mergeSort leK)
theorem ddp_mem : ∀ (ks acc : List (List VV)) (x : List VV), x ∈ ddp acc ks ↔ x ∈ acc ∨ x ∈ ks
  | [], acc, x => by simp [ddp]
  | k :: ks, acc, x => by
    rw [ddp, ddp_mem ks]
    split
    · rename_i h
      have : k ∈ acc := List.mem_of_getLast? h
      constructor
      · rintro (h | h)
        · exact .inl h
        · exact .inr (List.mem_cons_of_mem _ h)
      · rintro (h | h)
        · exact .inl h
        · rcases List.mem_cons.mp h with rfl | h
          · exact .inl this
          · exact .inr h
    · simp only [List.mem_append, List.mem_singleton, List.mem_cons, or_assoc, List.not_mem_nil, false_or]
theorem ddp_len : ∀ (ks acc : List (List VV)), (ddp acc ks).length ≤ acc.length + ks.length
  | [], acc => by simp [ddp]
  | k :: ks, acc => by
    rw [ddp]
    split
    · have := ddp_len ks acc; simp; omega
    · have := ddp_len ks (acc ++ [k]); simp at this ⊢; omega
theorem ddp_inc : ∀ (ks acc : List (List VV)), ks.Pairwise (fun a b => leK a b = true) → acc.Pairwise (fun a b => lexV a b = true) → (∀ a ∈ acc, ∀ k ∈ ks, leK a k = true) → (ddp acc ks).Pairwise (fun a b => lexV a b = true)
  | [], acc, _, h, _ => h
  | k :: ks, acc, hk, h, hb => by
    obtain ⟨h1, h2⟩ := List.pairwise_cons.mp hk
    rw [ddp]
    split
    · exact ddp_inc ks acc h2 h fun a ha x hx => hb a ha x (List.mem_cons_of_mem _ hx)
    · rename_i hl
      refine ddp_inc ks (acc ++ [k]) h2 ?_ fun a ha x hx => ?_
      · refine List.pairwise_append.mpr ⟨h, List.pairwise_singleton _ _, fun a ha b hb' => ?_⟩
        rw [List.mem_singleton.mp hb']
        have hle := hb a ha k (List.mem_cons_self)
        simp only [leK, Bool.not_eq_true'] at hle
        have hne : a ≠ k := fun z => by
          subst z
          obtain ⟨i, hi, e⟩ := List.getElem_of_mem ha
          by_cases hlast : i = acc.length - 1
          · exact hl (by rw [List.getLast?_eq_getElem?, ← hlast, List.getElem?_eq_getElem hi, e])
          · have hn : acc.length - 1 < acc.length := by omega
            have h3 := List.pairwise_iff_getElem.mp h i (acc.length - 1) hi hn (by omega)
            rw [e] at h3
            have h4 := hb acc[acc.length - 1] (List.getElem_mem hn) a (List.mem_cons_self)
            simp only [leK, Bool.not_eq_true'] at h4
            rw [h4] at h3; cases h3
        rcases lexV_tri hne with z | z
        · exact z
        · rw [hle] at z; cases z
      · rcases List.mem_append.mp ha with ha | ha
        · exact hb a ha x (List.mem_cons_of_mem _ hx)
        · rw [List.mem_singleton.mp ha]; exact h1 x hx
theorem inOrd_mem (ks : List (List VV)) (x : List VV) : x ∈ inOrd ks ↔ x ∈ ks := by
  rw [inOrd, ddp_mem, (List.mergeSort_perm ks leK).mem_iff]; simp
theorem inOrd_inc (ks : List (List VV)) : (inOrd ks).Pairwise (fun a b => lexV a b = true) :=
  ddp_inc _ [] (List.pairwise_mergeSort leK_trans leK_total ks) .nil (by simp)
theorem inOrd_len (ks : List (List VV)) : (inOrd ks).length ≤ ks.length := by
  have := ddp_len (ks.mergeSort leK) []
  rw [(List.mergeSort_perm ks leK).length_eq] at this
  simpa [inOrd] using this
/-- there is one such list -/
theorem inc_uniq : ∀ {a b : List (List VV)}, a.Pairwise (fun x y => lexV x y = true) → b.Pairwise (fun x y => lexV x y = true) → (∀ x, x ∈ a ↔ x ∈ b) → a = b
  | [], [], _, _, _ => rfl
  | [], y :: b, _, _, h => by have := (h y).mpr List.mem_cons_self; cases this
  | x :: a, [], _, _, h => by have := (h x).mp List.mem_cons_self; cases this
  | x :: a, y :: b, ha, hb, h => by
    obtain ⟨a1, a2⟩ := List.pairwise_cons.mp ha
    obtain ⟨b1, b2⟩ := List.pairwise_cons.mp hb
    have e : x = y := by
      rcases List.mem_cons.mp ((h x).mp List.mem_cons_self) with e | e
      · exact e
      · rcases List.mem_cons.mp ((h y).mpr List.mem_cons_self) with f | f
        · exact f.symm
        · have := lexV_trans (a1 y f) (b1 x e)
          rw [lexV_irr] at this; cases this
    subst e
    congr 1
    refine inc_uniq a2 b2 fun z => ?_
    constructor
    · intro hz
      rcases List.mem_cons.mp ((h z).mp (List.mem_cons_of_mem _ hz)) with q | q
      · subst q; have := a1 z hz; rw [lexV_irr] at this; cases this
      · exact q
    · intro hz
      rcases List.mem_cons.mp ((h z).mpr (List.mem_cons_of_mem _ hz)) with q | q
      · subst q; have := b1 z hz; rw [lexV_irr] at this; cases this
      · exact q

def encT (k : List VV) : D := .tuple (k.map VV.enc)
def K3 : VV → D
  | .n => .tuple [.int 0, .int 0, .str ""]
  | .i z => .tuple [.int 1, .int z, .str ""]
  | .w l => .tuple [.int 2, .int 0, .str ⟨l.toArray⟩]
def KT (k : List VV) : D := .tuple (k.map K3)
theorem empty_e : ("" : Str) = ⟨#[]⟩ := by decide +kernel
theorem K3_alike (a b : VV) : PySem.W.alike (K3 a) (K3 b) = true := by cases a <;> cases b <;> rfl
theorem lt3 {x x' y y' : Int} {s s' : Str} : PySem.W.dataLt (.tuple [.int x, .int y, .str s]) (.tuple [.int x', .int y', .str s']) = (if x = x' then (if y = y' then decide (s.cps.toList < s'.cps.toList) else decide (y < y')) else decide (x < x')) := by
  rw [PySem.W.dataLt_tuple, PySem.W.dataLt_cons (by rfl), PySem.W.dataLt_cons (by rfl), PySem.W.dataLt_cons (by rfl), PySem.W.dataLt_int, PySem.W.dataLt_int, PySem.W.dataLt_str]
  have e0 : PyProof.Rows.lexLt PyProof.Rows.itemOrd (PySem.W.keyToksAll []) (PySem.W.keyToksAll []) = false := PyProof.Rows.lex_irrefl _
  rw [e0]
  simp only [PyData.eqv, beq_iff_eq]
  by_cases h : s = s'
  · subst h; simp [List.lt_irrefl]
  · simp [h]
theorem K3_lt (a b : VV) : PySem.W.dataLt (K3 a) (K3 b) = a.lt b := by
  cases a <;> cases b <;> simp only [K3, lt3, VV.lt, empty_e] <;> simp
  rename_i x y
  intro h e; omega
theorem K3_eqv (a b : VV) : PyData.eqv (K3 a) (K3 b) = decide (a = b) := by
  cases a <;> cases b <;> simp [K3, PyData.eqv, PyData.eqvAll, str_beq, Bool.beq_eq_decide_eq, empty_e]
theorem KT_lt : ∀ {a b : List VV}, a.length = b.length → PySem.W.dataLt (KT a) (KT b) = lexV a b := by
  intro a b h
  rw [KT, KT, PySem.W.dataLt_tuple]
  induction a generalizing b with
  | nil =>
    cases b with
    | nil => exact PyProof.Rows.lex_irrefl _
    | cons => simp at h
  | cons x xs ih =>
    cases b with
    | nil => simp at h
    | cons y ys =>
      rw [List.map_cons, List.map_cons, PySem.W.dataLt_cons (K3_alike x y), K3_eqv, K3_lt, ih (by simpa using h), lexV]
      by_cases e : x = y <;> simp [e]
theorem whole_n : g_is_whole [.none] = .ok (.bool false) := by refine runF_ret ?_; simp [m_is_whole, isiD]
theorem whole_i (z : Int) : g_is_whole [.int z] = .ok (.bool true) := by refine runF_ret ?_; simp [m_is_whole, isiD]
theorem whole_s (z : Str) : g_is_whole [.str z] = .ok (.bool false) := by refine runF_ret ?_; simp [m_is_whole, isiD]
theorem value_key_eq (v : VV) : g_value_key [v.enc] = .ok (K3 v) := by
  refine runF_ret ?_
  cases v with
  | n => simp [m_value_key, VV.enc, K3, isD]
  | i z => simp -implicitDefEqProofs [m_value_key, t_value_key_3, VV.enc, K3, isD, whole_i]
  | w l => simp -implicitDefEqProofs [m_value_key, t_value_key_3, t_value_key_5, VV.enc, K3, isD, whole_s]
theorem place_key_eq (k : List VV) (h : k.length ≤ 1000) : g_place_key [encT k] = .ok (KT k) := by
  refine runF_ret ?_
  have e := lcL_all (ρ := [some (encT k), none]) (bnd := bName 1) (ge := e_place_key_1) VV.enc K3 k (fun v _ => ⟨_, rfl, by simp -implicitDefEqProofs [e_place_key_1, value_key_eq]⟩)
  have hz : k.length ≤ sizeLine := small (by omega)
  have es : seqD (encT k) = .ok (k.map VV.enc) := rfl
  generalize encT k = T at *
  simp -implicitDefEqProofs [m_place_key, es, hz, e, KT]
theorem KT_alike : ∀ {a b : List VV}, PySem.W.alike (KT a) (KT b) = true := by
  intro a b
  show PySem.W.alikeAll (a.map K3) (b.map K3) = true
  induction a generalizing b with
  | nil => rfl
  | cons x xs ih =>
    cases b with
    | nil => rfl
    | cons y ys => simp only [List.map_cons, PySem.W.alikeAll, K3_alike, ih, Bool.and_self]
theorem depth3 (v : VV) : (K3 v).depth ≤ 2 := by cases v <;> simp [K3, PyData.depth, PyData.depthAll]
theorem depthT : ∀ k : List VV, PyData.depthAll (k.map K3) ≤ 3
  | [] => by simp [PyData.depthAll]
  | v :: k => by
    have := depthT k; have := depth3 v
    simp only [List.map_cons, PyData.depthAll]; omega
theorem keysO_place : ∀ (ks : List (List VV)), (∀ k ∈ ks, k.length ≤ 1000) → keysO g_place_key (ks.map encT) = some (ks.map KT)
  | [], _ => rfl
  | k :: ks, h => by
    simp only [List.map_cons, keysO, place_key_eq k (h k List.mem_cons_self), keysO_place ks fun x hx => h x (List.mem_cons_of_mem _ hx)]
theorem sort_place {ks : List (List VV)} {n : Nat} (hn : 0 < n) (h : ∀ k ∈ ks, k.length = n) (hn2 : n ≤ 1000) : sortKD g_place_key (.list (ks.map encT)) = .ok (.list ((ks.mergeSort leK).map encT)) := by
  have e1 := keysO_place ks fun k hk => by have := h k hk; omega
  have e2 : keysOk (ks.map KT) = true := by
    simp only [keysOk, Bool.and_eq_true, List.all_eq_true, List.mem_map, decide_eq_true_eq]
    refine ⟨⟨?_, ?_⟩, ?_⟩
    · rintro _ ⟨a, _, rfl⟩ _ ⟨b, _, rfl⟩; exact KT_alike
    · rintro _ ⟨a, ha, rfl⟩
      have := h a ha
      cases a with
      | nil => simp at this; omega
      | cons x xs => rfl
    · rintro _ ⟨a, ha, rfl⟩
      have := depthT a
      simp only [KT, PyData.depth]; omega
  simp only [sortKD, e1]
  rw [e2, okIf_t]
  congr 2
  rw [List.zip_map', ← List.map_mergeSort (r := leK) (fun a ha b hb => by
    simp only [PySem.W.dataLe_eq, cond_false]
    rw [KT_lt (by rw [h a ha, h b hb])]; rfl), List.map_map]
  rfl
theorem ddp_snoc : ∀ (ks acc : List (List VV)) (k : List VV), ddp acc (ks ++ [k]) = if (ddp acc ks).getLast? = some k then ddp acc ks else ddp acc ks ++ [k]
  | [], acc, k => rfl
  | x :: ks, acc, k => by rw [List.cons_append, ddp, ddp_snoc ks]; rfl
theorem encT_inj {a b : List VV} (h : encT a = encT b) : a = b := by
  have h : a.map VV.enc = b.map VV.enc := by simpa [encT] using h
  exact (List.map_inj_right fun x y => VV.enc_inj).mp h
theorem encs_eqv : ∀ a b : List VV, PyData.eqvAll (a.map VV.enc) (b.map VV.enc) = decide (a = b)
  | [], [] => rfl
  | [], _ :: _ => by simp [PyData.eqvAll]
  | _ :: _, [] => by simp [PyData.eqvAll]
  | a :: as, b :: bs => by
    simp only [List.map_cons, PyData.eqvAll, VV.eqv, encs_eqv as bs]
    by_cases h : a = b <;> simp [h]
theorem encT_shp (n : Nat) (k : List VV) : shp (n + 1) (encT k) = true := by
  simp [encT, shp_tup, VV.shp]
theorem encT_ne (a b : List VV) : neD (encT a) (encT b) = .ok (.bool (!decide (a = b))) := by
  simp only [neD, encT_shp, Bool.and_self, okIf_t]
  rw [encT, encT, PyData.eqv, encs_eqv]
theorem encT_eq (a b : List VV) : eqD (encT a) (encT b) = .ok (.bool (decide (a = b))) := by
  simp only [eqD, encT_shp, Bool.and_self, okIf_t]
  rw [encT, encT, PyData.eqv, encs_eqv]
theorem lst_eqv : ∀ a b : List (List VV), PyData.eqvAll (a.map encT) (b.map encT) = decide (a = b)
  | [], [] => rfl
  | [], _ :: _ => by simp [PyData.eqvAll]
  | _ :: _, [] => by simp [PyData.eqvAll]
  | a :: as, b :: bs => by
    have e : PyData.eqv (encT a) (encT b) = decide (a = b) := by rw [encT, encT, PyData.eqv, encs_eqv]
    simp only [List.map_cons, PyData.eqvAll, e, lst_eqv as bs]
    by_cases h : a = b <;> simp [h]
theorem lst_shp (n : Nat) (ks : List (List VV)) : shp (n + 2) (.list (ks.map encT)) = true := by
  simp [shp_lst, encT_shp]
theorem lst_eq (a b : List (List VV)) : eqD (.list (a.map encT)) (.list (b.map encT)) = .ok (.bool (decide (a = b))) := by
  simp only [eqD, lst_shp, Bool.and_self, okIf_t]
  rw [PyData.eqv, lst_eqv]
theorem ix_last {ds : List D} {d : D} (h : ds.getLast? = some d) : ixD (.list ds) (.int (-1)) = .ok d := by
  have hl : 0 < ds.length := by cases ds with | nil => simp at h | cons => simp
  have : atI ds (-1) = some d := by
    unfold atI ixN
    rw [if_neg (by decide), if_pos (by omega)]
    show ds[(-1 + (ds.length : Int)).toNat]? = _
    rw [show (-1 + (ds.length : Int)).toNat = ds.length - 1 by omega, ← List.getLast?_eq_getElem?, h]
  simp only [ixD, this]
theorem run_io0 {S : Option D} {T : D} (h : eqD (.list []) (.list []) = .ok (.bool true)) : b_in_order_2 [S, some (.list []), some T] = .next [S, some (.list [T]), some T] := by
  have hz : (0 : Nat) < sizeLine := smallT (by omega)
  simp -implicitDefEqProofs [b_in_order_2, h, hz]
theorem run_io1 {S : Option D} {T L : D} {ds : List D} {c : Bool} (hz : ds.length < sizeLine) (h : eqD (.list ds) (.list []) = .ok (.bool false)) (h2 : ixD (.list ds) (.int (-1)) = .ok L) (h3 : neD L T = .ok (.bool c)) :
    b_in_order_2 [S, some (.list ds), some T] = .next [S, some (.list (if c = true then ds ++ [T] else ds)), some T] := by
  cases c <;> simp -implicitDefEqProofs [b_in_order_2, h, h2, h3, hz]
theorem in_order_eq {ks : List (List VV)} {n : Nat} (hn : 0 < n) (h : ∀ k ∈ ks, k.length = n) (hn2 : n ≤ 1000) (hl : ks.length ≤ 1000) : g_in_order [.list (ks.map encT)] = .ok (.list ((inOrd ks).map encT)) := by
  refine runF_ret ?_
  have es := sort_place hn h hn2
  have hsl : (ks.mergeSort leK).length ≤ 1000 := by rw [(List.mergeSort_perm ks leK).length_eq]; exact hl
  rw [inOrd]
  generalize ks.mergeSort leK = ms at *
  obtain ⟨ρ2, eloop, k, rfl⟩ := forL_ix (bnd := bName 2) (body := b_in_order_2) encT (fun i ρ => ∃ k, ρ = [some (.list (ks.map encT)), some (.list ((ddp [] (ms.take i)).map encT)), k])
    ms [some (.list (ks.map encT)), some (.list []), none] ⟨none, rfl⟩ (fun i x ρ hx ⟨k, e⟩ => by
      subst e
      have hi := (List.getElem?_eq_some_iff.mp hx).1
      have ht : ms.take (i + 1) = ms.take i ++ [x] := by rw [List.take_add_one, hx]; rfl
      have hdl := ddp_len (ms.take i) []
      refine ⟨_, _, rfl, .inl ?_, some (encT x), rfl⟩
      rw [ht, ddp_snoc]
      generalize ddp [] (ms.take i) = acc at *
      have hal : (acc.map encT).length < sizeLine := smallT (by simp at hdl ⊢; omega)
      have hq := lst_eq acc []
      cases hg : acc.getLast? with
      | none =>
        obtain rfl := List.getLast?_eq_none_iff.mp hg
        exact run_io0 (lst_eq [] [])
      | some y =>
        have hne : acc ≠ [] := fun z => by rw [z] at hg; cases hg
        rw [decide_eq_false hne] at hq
        have hx2 : ixD (.list (acc.map encT)) (.int (-1)) = .ok (encT y) := ix_last (by rw [List.getLast?_map, hg]; rfl)
        have r := run_io1 (S := some (.list (ks.map encT))) hal hq hx2 (encT_ne y x)
        refine r.trans ?_
        by_cases e : y = x
        · subst e; simp
        · have : ¬ (some y = some x) := fun z => e (Option.some.inj z)
          simp [e])
  rw [List.take_length] at eloop
  generalize PyData.list (ks.map encT) = S at *
  simp -implicitDefEqProofs [m_in_order, t_in_order_2, t_in_order_5, es, eloop]

theorem cell_at (ns : List Int) (k : Int) (h : 0 ≤ k) : g__law_cell_at [.list (ns.map .int), .int k] = .ok (.int (cell ns k.toNat)) := by
  refine runF_ret ?_
  by_cases hk : k < (ns.length : Int)
  · simp [m__law_cell_at, t__law_cell_at_3, hk, ixD_l h (cell_get (show k.toNat < ns.length by omega))]
  · simp [m__law_cell_at, t__law_cell_at_3, hk, cell_none (show ns.length ≤ k.toNat by omega)]

def ch (c : Nat) : D := .str ⟨#[c]⟩
def lets : List Nat := (List.range 26).map (97 + ·)
def figs : List Nat := (List.range 10).map (48 + ·)
theorem in_ch (c : Nat) (l : List Nat) : inD (ch c) (.str ⟨l.toArray⟩) = .ok (.bool (decide (c ∈ l))) := by simp [ch, inD, inStr]
theorem notin_ch (c : Nat) (l : List Nat) : notInD (ch c) (.str ⟨l.toArray⟩) = .ok (.bool (!decide (c ∈ l))) := by simp [ch, notInD, inStr]
theorem ix_ch {l : List Nat} {c : Nat} {i : Int} (hi : 0 ≤ i) (hl : l.length ≤ 1000000) (h : l[i.toNat]? = some c) : ixD (.str ⟨l.toArray⟩) (.int i) = .ok (ch c) := by
  have : (⟨l.toArray⟩ : Str).length ≤ sizeLine := small (by simpa [Str.length] using hl)
  simp [ixD, this, atI_nn hi, h, ch]
theorem seq_ch (l : List Nat) : seqD (.str ⟨l.toArray⟩) = .ok (l.map ch) := by simp [seqD, ch]
theorem len_ch {l : List Nat} (hl : l.length ≤ 1000000) : lenF [.str ⟨l.toArray⟩] = .ok (.int l.length) := by
  rw [lenF_s (small (by simpa [Str.length] using hl))]; simp [Str.length]
theorem add_ch {a b : List Nat} (h : a.length + b.length ≤ 1000000) : addD (.str ⟨a.toArray⟩) (.str ⟨b.toArray⟩) = .ok (.str ⟨(a ++ b).toArray⟩) := by
  rw [addD_ss (small (by simpa [Str.length] using h))]
  congr 2
  show (⟨a.toArray ++ b.toArray⟩ : Str) = _
  simp
theorem sl_ch {l : List Nat} {lo hi : Option Int} (h : l.length ≤ 1000000) : slD (.str ⟨l.toArray⟩) lo hi = .ok (.str ⟨(cutG l lo hi).toArray⟩) := by
  have : (⟨l.toArray⟩ : Str).length ≤ sizeLine := small (by simpa [Str.length] using h)
  show okIf _ _ = _
  rw [decide_eq_true this]
  show R.ok _ = _
  congr 2
theorem eq_ch (a b : List Nat) : eqD (.str ⟨a.toArray⟩) (.str ⟨b.toArray⟩) = .ok (.bool (decide (a = b))) := by
  simp only [eqD, shp_str, PyData.eqv, Bool.and_self, okIf_t]
  congr 2
  rw [Bool.eq_iff_iff]
  simp
theorem ne_ch (a b : List Nat) : neD (.str ⟨a.toArray⟩) (.str ⟨b.toArray⟩) = .ok (.bool (!decide (a = b))) := by
  simp only [neD, shp_str, PyData.eqv, Bool.and_self, okIf_t]
  congr 3
  rw [Bool.eq_iff_iff]
  simp
theorem ch_str (c : Nat) : ch c = .str ⟨[c].toArray⟩ := rfl

def sg : List Nat := lets ++ figs
theorem sg_e : ("abcdefghijklmnopqrstuvwxyz0123456789" : Str) = ⟨sg.toArray⟩ := by decide +kernel
theorem lets_e : ("abcdefghijklmnopqrstuvwxyz" : Str) = ⟨lets.toArray⟩ := by decide +kernel
theorem sg_len : sg.length = 36 := by decide +kernel
theorem sg_low : ∀ c ∈ sg, c < 128 := by decide +kernel
def sgA (j : Int) : Nat := sg.getD j.toNat 0
theorem sg_ix {j : Int} (h : 0 ≤ j) (h2 : j < 36) : sgA j ∈ sg ∧ ixD (.str "abcdefghijklmnopqrstuvwxyz0123456789") (.int j) = .ok (ch (sgA j)) := by
  have hl : j.toNat < sg.length := by rw [sg_len]; omega
  have e : sgA j = sg[j.toNat] := by simp [sgA, hl]
  rw [e]
  refine ⟨List.getElem_mem hl, ?_⟩
  rw [sg_e]
  exact ix_ch h (by decide +kernel) (List.getElem?_eq_getElem hl)
theorem stream_ok (c p : Int) : ∃ way : List Int, way.length = 24 ∧ (∀ w ∈ way, 0 ≤ w) ∧ g__law_stream [.int c, .int p] = .ok (.list (way.map .int)) := by
  obtain ⟨ρ2, eloop, num, xs, k, hl, hp, rfl⟩ := forL_ix (bnd := bName 4) (body := b__law_stream_3) (fun (i : Nat) => PyData.int (i : Int)) (fun i ρ => ∃ (num : Int) (xs : List Int) (k : Option D), xs.length = i ∧ (0 ≤ num ∧ ∀ w ∈ xs, 0 ≤ w) ∧ ρ = [some (.int c), some (.int p), some (.int num), some (.list (xs.map .int)), k])
    (List.range 25) [some (.int c), some (.int p), some (.int ((c + 7919 * p) % 2147483629)), some (.list []), none] ⟨_, [], none, rfl, ⟨by omega, by simp⟩, rfl⟩ (fun i x ρ hx ⟨num, xs, k, hl, ⟨hp, hw⟩, e⟩ => by
      subst e
      have hi : i < 25 := by have := (List.getElem?_eq_some_iff.mp hx).1; simpa using this
      have hz : xs.length < sizeLine := smallT (by omega)
      generalize hq : (num * 48271 + 2 * (x : Int) + 11) % 2147483647 = q
      have hq0 : 0 ≤ q := by omega
      have e1 : modD (.int (num * 48271 + 2 * (x : Int) + 11)) (.int 2147483647) = .ok (.int q) := by rw [modD_i (by omega), hq]
      refine ⟨_, _, rfl, .inl ?_, q, xs ++ [q / 64], some (.int x), by simp [hl], ⟨hq0, fun w h => ?_⟩, rfl⟩
      · simp -implicitDefEqProofs [b__law_stream_3, t__law_stream_5, mulD_r, mulD_l, e1, fdivD_i, hz]
      · rcases List.mem_append.mp h with h | h
        · exact hw w h
        · rw [List.mem_singleton.mp h]; omega)
  have er := rng1_n 25 (by omega)
  simp only [List.length_range] at hl
  refine ⟨xs.drop 1, by simp [hl], fun w h => hp.2 w (List.mem_of_mem_drop h), runF_ret ?_⟩
  have es : slD (.list (xs.map .int)) (some 1) none = .ok (.list ((xs.drop 1).map .int)) := by
    rw [slD_l, cutD_map, cutG_pn (by decide)]; rfl
  generalize (List.range 25).map (fun (i : Nat) => PyData.int (i : Int)) = R at *
  have er : rng1 [.int 25] = .ok R := er
  simp -implicitDefEqProofs [m__law_stream, t__law_stream_2, t__law_stream_3, t__law_stream_6, mulD_l, modD_i, er, eloop, es, -rng1_e, -slD_l, -List.map_drop]
def wordL (c : Int) (m : Nat) : List Nat := sgA (c % 26) :: (List.range m).map fun (k : Nat) => sgA (c / ((k : Int) + 3) % 36)
theorem wordL_len (c : Int) (m : Nat) : (wordL c m).length = m + 1 := by simp [wordL]
theorem wordL_sg (c : Int) (m : Nat) : ∀ x ∈ wordL c m, x ∈ sg := by
  intro x h
  rcases List.mem_cons.mp h with rfl | h
  · exact (sg_ix (by omega) (by omega)).1
  · obtain ⟨k, _, rfl⟩ := List.mem_map.mp h
    exact (sg_ix (by omega) (by omega)).1
theorem word_eq (c : Int) (m : Nat) (hm : m ≤ 100) : g__law_word [.int c, .int m] = .ok (.str ⟨(wordL c m).toArray⟩) := by
  refine runF_ret ?_
  obtain ⟨ρ2, eloop, k, rfl⟩ := forL_ix (bnd := bName 4) (body := b__law_word_3) (fun (i : Nat) => PyData.int (i : Int)) (fun i ρ => ∃ k, ρ = [some (.int c), some (.int m), some (.str "abcdefghijklmnopqrstuvwxyz0123456789"), some (.str ⟨(wordL c i).toArray⟩), k])
    (List.range m) [some (.int c), some (.int m), some (.str "abcdefghijklmnopqrstuvwxyz0123456789"), some (ch (sgA (c % 26))), none] ⟨none, rfl⟩ (fun i x ρ hx ⟨k, e⟩ => by
      subst e
      obtain ⟨hi, ej⟩ := List.getElem?_eq_some_iff.mp hx
      rw [List.getElem_range] at ej
      subst ej
      simp only [List.length_range] at hi
      have e1 : fdivD (.int c) (.int ((i : Int) + 3)) = .ok (.int (c / ((i : Int) + 3))) := fdivD_i (by omega) (by omega)
      have e2 := (sg_ix (j := c / ((i : Int) + 3) % 36) (by omega) (by omega)).2
      have e3 : addD (.str ⟨(wordL c i).toArray⟩) (ch (sgA (c / ((i : Int) + 3) % 36))) = .ok (.str ⟨(wordL c (i + 1)).toArray⟩) := by
        rw [ch_str, add_ch (by rw [wordL_len]; simp; omega)]
        simp [wordL, List.range_succ]
      refine ⟨_, _, rfl, .inl ?_, some (.int i), rfl⟩
      generalize PyData.str ⟨(wordL c i).toArray⟩ = A at *
      generalize PyData.str ⟨(wordL c (i + 1)).toArray⟩ = A' at *
      generalize ch (sgA (c / ((i : Int) + 3) % 36)) = C at *
      simp -implicitDefEqProofs [b__law_word_3, e1, modD_i, e2, e3])
  simp only [List.length_range] at eloop
  have er := rng1_n m (by omega)
  have e0 := (sg_ix (j := c % 26) (by omega) (by omega)).2
  generalize PyData.str ⟨(wordL c m).toArray⟩ = A at *
  generalize ch (sgA (c % 26)) = C at *
  generalize (List.range m).map (fun (i : Nat) => PyData.int (i : Int)) = R at *
  simp -implicitDefEqProofs [m__law_word, t__law_word_2, t__law_word_3, t__law_word_5, modD_i, e0, er, eloop, -rng1_e]
def zd (k w : Nat) : List Nat := (Txt.zfill (Str.ofString (toString (k : Int))) (w : Int)).cps.toList
def numOf (l : List Nat) : Nat := l.foldl (fun a c => 10 * a + (c - 48)) 0
theorem zd_tab : ∀ k : Fin 47, ∀ w : Fin 4, numOf (zd k.val (w.val + 1)) = k.val ∧ (zd k.val (w.val + 1)).length ≤ 4 ∧ ∀ c ∈ zd k.val (w.val + 1), 48 ≤ c ∧ c < 58 := by decide +kernel
theorem zd_ok {k w : Nat} (hk : k < 47) (h1 : 1 ≤ w) (h2 : w ≤ 4) : numOf (zd k w) = k ∧ (zd k w).length ≤ 4 ∧ ∀ c ∈ zd k w, 48 ≤ c ∧ c < 58 := by
  have := zd_tab ⟨k, hk⟩ ⟨w - 1, by omega⟩
  simpa only [show w - 1 + 1 = w by omega] using this
theorem zfill_eq {k : Nat} {w : Int} (hk : k < 47) (h1 : 1 ≤ w) (h2 : w ≤ 4) : strF [.int k] = .ok (.str (Str.ofString (toString (k : Int)))) ∧ zfillS (Str.ofString (toString (k : Int))) (.int w) = .ok (.str ⟨(zd k w.toNat).toArray⟩) := by
  constructor
  · show okIf _ _ = _
    have : ((k : Int).natAbs.log2 < 1920) := by
      have : ∀ k : Fin 47, ((k.val : Int).natAbs.log2 < 1920) := by decide +kernel
      exact this ⟨k, hk⟩
    rw [decide_eq_true this]; rfl
  · have e : Txt.zfill (Str.ofString (toString (k : Int))) w = ⟨(zd k w.toNat).toArray⟩ := by
      rw [zd, show ((w.toNat : Nat) : Int) = w by omega]
    show okIf _ _ = _
    rw [e]
    have h3 : PadOk w = true := by
      have : w = 1 ∨ w = 2 ∨ w = 3 ∨ w = 4 := by omega
      rcases this with rfl | rfl | rfl | rfl <;> decide +kernel
    have h4 : PyData.strOk ⟨(zd k w.toNat).toArray⟩ = true := strOk_iff.mpr fun c hc => by
      have := (zd_ok hk (w := w.toNat) (by omega) (by omega)).2.2 c (by simpa using hc)
      omega
    rw [h3, h4]; rfl
def valW (c : Int) : List Nat := wordL (c / 4) (c % 8).toNat
def valP (c : Int) : Nat := (c / 8 % ((valW c).length + 1 : Nat)).toNat
def letA (j : Nat) : Nat := lets.getD j 0
def valV (way c : Int) (k : Nat) : VV :=
  if way = 0 then .i (c / 4 % 10 ^ 30 + k) else if way = 1 then .i (0 - c / 4 % 10 ^ 30 - k) else
  if way = 2 then .w (valW c ++ zd k (1 + c / 8 % 4).toNat) else
  .w ((valW c).take (valP c) ++ [letA (k / 26), letA (((k : Int) + c / 8) % 26).toNat] ++ (valW c).drop (valP c))
theorem let_ix {j : Int} (h : 0 ≤ j) (h2 : j < 26) : letA j.toNat ∈ lets ∧ ixD (.str "abcdefghijklmnopqrstuvwxyz") (.int j) = .ok (ch (letA j.toNat)) := by
  have hl : j.toNat < lets.length := by simp [lets]; omega
  have e : letA j.toNat = lets[j.toNat] := by simp [letA, hl]
  rw [e]
  refine ⟨List.getElem_mem hl, ?_⟩
  rw [lets_e]
  exact ix_ch h (by decide +kernel) (List.getElem?_eq_getElem hl)
theorem value_eq {way c : Int} {k : Nat} (hw : 0 ≤ way ∧ way < 4) (hk : k < 47) : g__law_value [.int way, .int c, .int k] = .ok (valV way c k).enc := by
  refine runF_ret ?_
  have e3 : powD (.int 10) (.int 30) = .ok (.int (10 ^ 30)) := powD_i (by omega) (by omega) (by decide)
  have e4 : modD (.int (c / 4)) (.int (10 ^ 30)) = .ok (.int (c / 4 % 10 ^ 30)) := modD_i (by decide)
  have ew : g__law_word [.int (c / 4), .int (c % 8)] = .ok (.str ⟨(valW c).toArray⟩) := by
    have := word_eq (c / 4) (c % 8).toNat (by omega)
    rwa [show (((c % 8).toNat : Nat) : Int) = c % 8 by omega] at this
  have hlen : (valW c).length ≤ 9 := by rw [valW, wordL_len]; omega
  unfold valV
  generalize (10 ^ 30 : Int) = T at *
  by_cases h0 : way = 0
  · simp -implicitDefEqProofs [m__law_value, t__law_value_2, fdivD_i, e3, e4, h0, VV.enc]
  by_cases h1 : way = 1
  · simp -implicitDefEqProofs [m__law_value, t__law_value_2, t__law_value_4, fdivD_i, e3, e4, h1, VV.enc]
  by_cases h2 : way = 2
  · obtain ⟨z1, z2⟩ := zfill_eq hk (w := 1 + c / 8 % 4) (by omega) (by omega)
    have a1 : addD (.str ⟨(valW c).toArray⟩) (.str ⟨(zd k (1 + c / 8 % 4).toNat).toArray⟩) = .ok (.str ⟨(valW c ++ zd k (1 + c / 8 % 4).toNat).toArray⟩) := add_ch (by
      have := (zd_ok hk (w := (1 + c / 8 % 4).toNat) (by omega) (by omega)).2.1
      omega)
    rw [if_neg h0, if_neg h1, if_pos h2]
    show _ = Out.ret (.str _)
    generalize PyData.str ⟨(valW c).toArray⟩ = A at *
    generalize valW c ++ zd k (1 + c / 8 % 4).toNat = AZ at *
    generalize Str.ofString (toString (k : Int)) = ks at *
    simp -implicitDefEqProofs [m__law_value, t__law_value_2, t__law_value_4, t__law_value_6, t__law_value_7, fdivD_i, modD_i, e3, e4, h0, h1, h2, ew, z1, z2, a1]
  · have hp : ((valP c : Nat) : Int) = c / 8 % ((valW c).length + 1 : Nat) := by
      have := Int.emod_nonneg (c / 8) (b := ((valW c).length + 1 : Nat)) (by omega)
      unfold valP; omega
    have hpl : valP c ≤ (valW c).length := by
      have := Int.emod_lt_of_pos (c / 8) (b := ((valW c).length + 1 : Nat)) (by omega)
      omega
    have el := len_ch (l := valW c) (by omega)
    have em : modD (.int (c / 8)) (.int ((valW c).length + 1)) = .ok (.int (valP c)) := by
      rw [modD_i (by omega), hp]; congr 2
    have l1 := (let_ix (j := (k : Int) / 26) (by omega) (by omega)).2
    have l2 := (let_ix (j := ((k : Int) + c / 8) % 26) (by omega) (by omega)).2
    rw [show ((k : Int) / 26).toNat = k / 26 by omega] at l1
    have s1 : slD (.str ⟨(valW c).toArray⟩) none (some (valP c : Int)) = .ok (.str ⟨((valW c).take (valP c)).toArray⟩) := by rw [sl_ch (by omega), cutG_np (by omega)]; rfl
    have s2 : slD (.str ⟨(valW c).toArray⟩) (some (valP c : Int)) none = .ok (.str ⟨((valW c).drop (valP c)).toArray⟩) := by rw [sl_ch (by omega), cutG_pn (by omega)]; rfl
    have a1 : addD (ch (letA (k / 26))) (ch (letA (((k : Int) + c / 8) % 26).toNat)) = .ok (.str ⟨[letA (k / 26), letA (((k : Int) + c / 8) % 26).toNat].toArray⟩) := by
      rw [ch_str, ch_str, add_ch (by simp)]; rfl
    have a2 : addD (.str ⟨((valW c).take (valP c)).toArray⟩) (.str ⟨[letA (k / 26), letA (((k : Int) + c / 8) % 26).toNat].toArray⟩) = .ok (.str ⟨((valW c).take (valP c) ++ [letA (k / 26), letA (((k : Int) + c / 8) % 26).toNat]).toArray⟩) := add_ch (by simp; omega)
    have a3 : addD (.str ⟨((valW c).take (valP c) ++ [letA (k / 26), letA (((k : Int) + c / 8) % 26).toNat]).toArray⟩) (.str ⟨((valW c).drop (valP c)).toArray⟩) = .ok (.str ⟨((valW c).take (valP c) ++ [letA (k / 26), letA (((k : Int) + c / 8) % 26).toNat] ++ (valW c).drop (valP c)).toArray⟩) := add_ch (by simp; omega)
    rw [if_neg h0, if_neg h1, if_neg h2]
    show _ = Out.ret (.str _)
    generalize (valW c).take (valP c) ++ [letA (k / 26), letA (((k : Int) + c / 8) % 26).toNat] ++ (valW c).drop (valP c) = R3 at *
    generalize (valW c).take (valP c) ++ [letA (k / 26), letA (((k : Int) + c / 8) % 26).toNat] = R2 at *
    generalize [letA (k / 26), letA (((k : Int) + c / 8) % 26).toNat] = R1 at *
    generalize ch (letA (((k : Int) + c / 8) % 26).toNat) = C2 at *
    generalize ch (letA (k / 26)) = C1 at *
    generalize ((valP c : Nat) : Int) = P at *
    generalize PyData.str ⟨(valW c).toArray⟩ = A at *
    simp -implicitDefEqProofs [m__law_value, t__law_value_2, t__law_value_4, t__law_value_6, t__law_value_7, t__law_value_9, t__law_value_10, t__law_value_11, t__law_value_12, fdivD_i, modD_i, e3, e4, h0, h1, h2, ew, el, em, l1, l2, s1, s2, a1, a2, a3]

theorem letA_e {j : Nat} (h : j < 26) : letA j = 97 + j := by simp [letA, lets, h]
def lcnt (l : List Nat) : Nat := l.countP fun c => decide (97 ≤ c)
theorem valV_inj {way way' c : Int} {k k' : Nat} (hw : 0 ≤ way ∧ way < 4) (hw' : 0 ≤ way' ∧ way' < 4) (hk : k < 47) (hk' : k' < 47) (h : valV way c k = valV way' c k') : k = k' := by
  have hz : ∀ {k}, k < 47 → lcnt (zd k (1 + c / 8 % 4).toNat) = 0 := fun {k} hk => by
    rw [lcnt, List.countP_eq_zero]
    intro x hx
    have := (zd_ok hk (w := (1 + c / 8 % 4).toNat) (by omega) (by omega)).2.2 x hx
    simp; omega
  have h3 : ∀ k : Nat, k < 47 → lcnt ((valW c).take (valP c) ++ [letA (k / 26), letA (((k : Int) + c / 8) % 26).toNat] ++ (valW c).drop (valP c)) = lcnt (valW c) + 2 := fun k hk => by
    have e := List.take_append_drop (valP c) (valW c)
    have e2 : lcnt (valW c) = lcnt ((valW c).take (valP c)) + lcnt ((valW c).drop (valP c)) := by
      rw [lcnt, lcnt, lcnt, ← List.countP_append, e]
    rw [e2, lcnt, List.countP_append, List.countP_append, letA_e (by omega), letA_e (by omega)]
    simp [lcnt]
    omega
  have h2 : ∀ k, k < 47 → lcnt (valW c ++ zd k (1 + c / 8 % 4).toNat) = lcnt (valW c) := fun k hk => by
    have := hz hk
    rw [lcnt, List.countP_append]; unfold lcnt at this ⊢; omega
  have hT : 0 ≤ c / 4 % 10 ^ 30 := Int.emod_nonneg _ (by decide)
  unfold valV at h
  generalize c / 4 % 10 ^ 30 = T at *
  have c1 : way = 0 ∨ way = 1 ∨ way = 2 ∨ way = 3 := by omega
  have c2 : way' = 0 ∨ way' = 1 ∨ way' = 2 ∨ way' = 3 := by omega
  rcases c1 with rfl | rfl | rfl | rfl <;> rcases c2 with rfl | rfl | rfl | rfl <;>
    simp only [if_true, if_false, Int.reduceEq, VV.i.injEq, VV.w.injEq, reduceCtorEq] at h
  · omega
  · omega
  · omega
  · omega
  · have := List.append_cancel_left h
    have z1 := (zd_ok hk (w := (1 + c / 8 % 4).toNat) (by omega) (by omega)).1
    have z2 := (zd_ok hk' (w := (1 + c / 8 % 4).toNat) (by omega) (by omega)).1
    rw [← z1, ← z2, this]
  · have := h2 k hk; have := h3 k' hk'; rw [h] at *; omega
  · have := h2 k' hk'; have := h3 k hk; rw [h] at *; omega
  · have h := List.append_cancel_right h
    have h := List.append_cancel_left h
    simp only [List.cons.injEq, and_true] at h
    rw [letA_e (by omega), letA_e (by omega), letA_e (by omega), letA_e (by omega)] at h
    omega
theorem mul47 : ∀ m : Fin 46, ∀ d : Fin 46, ((d.val + 1) * (m.val + 1)) % 47 ≠ 0 := by decide +kernel
theorem at_inj {k l : Nat} {m b : Int} (hm : 1 ≤ m ∧ m ≤ 46) (hk : k < 47) (hl : l < 47) (h : ((k : Int) * m + b) % 47 = ((l : Int) * m + b) % 47) : k = l := by
  have key : ∀ {k l : Nat}, k < l → l < 47 → ((k : Int) * m + b) % 47 = ((l : Int) * m + b) % 47 → False := fun {k l} h1 h2 h3 => by
    have := mul47 ⟨m.toNat - 1, by omega⟩ ⟨l - k - 1, by omega⟩
    simp only [show l - k - 1 + 1 = l - k by omega, show m.toNat - 1 + 1 = m.toNat by omega] at this
    have e : ((l : Int) * m) = (k : Int) * m + ((l - k : Nat) : Int) * (m.toNat : Int) := by
      rw [show ((m.toNat : Nat) : Int) = m by omega, ← Int.add_mul]; congr 1; omega
    have e2 : (((l - k) * m.toNat : Nat) : Int) = ((l - k : Nat) : Int) * (m.toNat : Int) := by simp
    rw [e, ← e2] at h3
    generalize (l - k) * m.toNat = q at *
    generalize (k : Int) * m = r at *
    omega
  rcases Nat.lt_trichotomy k l with q | q | q
  · exact (key q hl h).elim
  · exact q
  · exact (key q hk h.symm).elim
def gt (s : List Int) (i : Nat) : Int := s.getD i 0
theorem gt_ix {s : List Int} {i : Nat} (h : i < s.length) : ixD (.list (s.map .int)) (.int i) = .ok (.int (gt s i)) := ixD_l (by omega) (by simp [gt, h])
theorem gt_pos {s : List Int} (h : ∀ w ∈ s, 0 ≤ w) (i : Nat) : 0 ≤ gt s i := by
  unfold gt
  by_cases hi : i < s.length
  · simp [hi]; exact h _ (List.getElem_mem hi)
  · simp [hi]
theorem wid_ix {w : Int} (hw : 0 ≤ w) : ∃ v : Int, (1 ≤ v ∧ v ≤ 47) ∧ ixD (.list [.int (1 + w % 6), .int (2 + w % 3), .int 47, .int 3]) (.int (w / 64 % 4)) = .ok (.int v) := by
  have : w / 64 % 4 = 0 ∨ w / 64 % 4 = 1 ∨ w / 64 % 4 = 2 ∨ w / 64 % 4 = 3 := by omega
  rcases this with e | e | e | e <;> rw [e]
  · exact ⟨1 + w % 6, by omega, ixD_l (by decide) rfl⟩
  · exact ⟨2 + w % 3, by omega, ixD_l (by decide) rfl⟩
  · exact ⟨47, by omega, ixD_l (by decide) rfl⟩
  · exact ⟨3, by omega, ixD_l (by decide) rfl⟩
theorem mkLst_4 {a b c e : D} : mkLst [a, b, c, e] = .ok (.list [a, b, c, e]) := mkLst_ok (small (by simp))
theorem rng2_n (a n : Nat) (h : a + n ≤ 1000000) : rng2 [.int a, .int ((a + n : Nat) : Int)] = .ok ((List.range n).map fun (i : Nat) => PyData.int ((a + i : Nat) : Int)) := by
  have : -(2 ^ 62) ≤ (a : Int) ∧ (a : Int) < 2 ^ 62 ∧ -(2 ^ 62) ≤ ((a + n : Nat) : Int) ∧ ((a + n : Nat) : Int) < 2 ^ 62 := by omega
  rw [rng2, if_pos this, rngL]
  rw [show (((a + n : Nat) : Int) - a).toNat = n by omega]
  congr 1
def Wid (ws : List Int) : Prop := ∀ w ∈ ws, 1 ≤ w ∧ w ≤ 47
/-- the widths -/
theorem widths_run {C M P : D} {s : List Int} (hl : s.length = 24) (hs : ∀ w ∈ s, 0 ≤ w) : ∃ ws : List Int, ws.length = 4 ∧ Wid ws ∧ ∃ x, forL (bName 5) b__law_ladder_3 ((List.range 3).map fun (i : Nat) => PyData.int ((1 + i : Nat) : Int)) [some C, some M, some P, some (.list (s.map .int)), some (.list [.int 47]), none, none, none, none, none, none] =
    .next [some C, some M, some P, some (.list (s.map .int)), some (.list (ws.map .int)), x, none, none, none, none, none] := by
  obtain ⟨ρ2, eloop, ws, x, h1, h2, rfl⟩ := forL_ix (bnd := bName 5) (body := b__law_ladder_3) (fun (i : Nat) => PyData.int ((1 + i : Nat) : Int)) (fun i ρ => ∃ (ws : List Int) (x : Option D), ws.length = i + 1 ∧ Wid ws ∧ ρ = [some C, some M, some P, some (.list (s.map .int)), some (.list (ws.map .int)), x, none, none, none, none, none])
    (List.range 3) [some C, some M, some P, some (.list (s.map .int)), some (.list [.int 47]), none, none, none, none, none, none] ⟨[47], none, rfl, by simp [Wid], rfl⟩ (fun i x ρ hx ⟨ws, y, h1, h2, e⟩ => by
      subst e
      obtain ⟨hi, ej⟩ := List.getElem?_eq_some_iff.mp hx
      rw [List.getElem_range] at ej
      subst ej
      simp only [List.length_range] at hi
      have e1 := gt_ix (s := s) (i := 1 + i) (by omega)
      have hw := gt_pos hs (1 + i)
      generalize gt s (1 + i) = w at *
      obtain ⟨v, hv, e2⟩ := wid_ix hw
      have hz : ws.length < sizeLine := smallT (by omega)
      refine ⟨_, _, rfl, .inl ?_, ws ++ [v], some (.int ((1 + i : Nat) : Int)), by simp [h1], fun q hq => ?_, rfl⟩
      · generalize PyData.list (s.map .int) = S at *
        generalize ((1 + i : Nat) : Int) = ii at *
        have mk := @mkLst_4
        simp -implicitDefEqProofs [b__law_ladder_3, e1, fdivD_i, modD_i, mk, e2, hz]
      · rcases List.mem_append.mp hq with hq | hq
        · exact h2 q hq
        · rw [List.mem_singleton.mp hq]; exact hv)
  exact ⟨ws, by simpa using h1, h2, x, eloop⟩
theorem run_tail {c w12 w16 w17 : Int} {M P L K x10 : Option D} {S W V : D} {Ln : List D} {j a : Nat} (e3 : ixD S (.int (12 + j)) = .ok (.int w12)) (e4 : ixD S (.int 16) = .ok (.int w16)) (e5 : ixD S (.int 17) = .ok (.int w17))
    (m2 : mulD (.int j) (.int (w16 % 2)) = .ok (.int (j * (w16 % 2)))) (m3 : mulD (.int (j * (w16 % 2))) (.int 1000003) = .ok (.int (j * (w16 % 2) * 1000003))) (m4 : mulD (.int a) (.int (w17 % 2)) = .ok (.int (a * (w17 % 2))))
    (ev : g__law_value [.int ((w12 + a * (w17 % 2)) % 4), .int (c + j * (w16 % 2) * 1000003), .int a] = .ok V) (hz2 : Ln.length < sizeLine) :
    t__law_ladder_12 [some (.int c), M, P, some S, some W, some (.int j), L, K, some (.int a), some (.list Ln), x10] = .next [some (.int c), M, P, some S, some W, some (.int j), L, K, some (.int a), some (.list (Ln ++ [V])), some (.int (c + j * (w16 % 2) * 1000003))] := by
  simp -implicitDefEqProofs [t__law_ladder_12, t__law_ladder_13, e3, e4, e5, modD_i, m2, m3, m4, ev, hz2]
theorem run_at0 {c : Int} {M P L K x10 LN : Option D} {S W : D} {j a : Nat} {o : Out} (h0 : j = 0) (tail : t__law_ladder_12 [some (.int c), M, P, some S, some W, some (.int j), L, K, some (.int a), LN, x10] = o) :
    b__law_ladder_9 [some (.int c), M, P, some S, some W, some (.int j), L, K, some (.int a), LN, x10] = o := by
  have g0 : gtD (.int (j : Int)) (.int 0) = .ok (.bool false) := by rw [gtD_ii]; simp [h0]
  simp -implicitDefEqProofs [b__law_ladder_9, g0, tail, -gtD_ii]
theorem run_at1 {c w4 w8 wj : Int} {M P L K x10 LN : Option D} {S W : D} {j a a' : Nat} {o : Out} (h0 : j ≠ 0) (e1 : ixD S (.int (4 + j)) = .ok (.int w4)) (e2 : ixD S (.int (8 + j)) = .ok (.int w8)) (e6 : ixD W (.int j) = .ok (.int wj))
    (m1 : mulD (.int a) (.int (1 + w4 % 5)) = .ok (.int (a * (1 + w4 % 5)))) (m5 : modD (.int (a * (1 + w4 % 5) + w8)) (.int wj) = .ok (.int a'))
    (tail : t__law_ladder_12 [some (.int c), M, P, some S, some W, some (.int j), L, K, some (.int a'), LN, x10] = o) :
    b__law_ladder_9 [some (.int c), M, P, some S, some W, some (.int j), L, K, some (.int a), LN, x10] = o := by
  have g0 : gtD (.int (j : Int)) (.int 0) = .ok (.bool true) := by rw [gtD_ii]; simp; omega
  simp -implicitDefEqProofs [b__law_ladder_9, g0, e1, e2, e6, modD_i, m1, m5, tail, -gtD_ii]
theorem run_cell {c : Int} {M P L K x10 : Option D} {s ws : List Int} {j a a' : Nat} {line : List VV} (hl : s.length = 24) (hs : ∀ w ∈ s, 0 ≤ w) (hj : j < 4) (hw : ws.length = 4) (ha' : a' < 47) (hz : line.length ≤ 100)
    (hat : if j = 0 then a' = a else (((a : Int) * (1 + gt s (4 + j) % 5) + gt s (8 + j)) % gt ws j = a')) (hwid : Wid ws) :
    ∃ x, b__law_ladder_9 [some (.int c), M, P, some (.list (s.map .int)), some (.list (ws.map .int)), some (.int j), L, K, some (.int a), some (.list (line.map VV.enc)), x10] =
      .next [some (.int c), M, P, some (.list (s.map .int)), some (.list (ws.map .int)), some (.int j), L, K, some (.int a'), some (.list ((line ++ [valV ((gt s (12 + j) + a' * (gt s 17 % 2)) % 4) (c + j * (gt s 16 % 2) * 1000003) a']).map VV.enc)), x] := by
  have e1 := gt_ix (s := s) (i := 4 + j) (by omega)
  have e2 := gt_ix (s := s) (i := 8 + j) (by omega)
  have e3 := gt_ix (s := s) (i := 12 + j) (by omega)
  have e4 := gt_ix (s := s) (i := 16) (by omega)
  have e5 := gt_ix (s := s) (i := 17) (by omega)
  have e6 := gt_ix (s := ws) (i := j) (by omega)
  have ev := value_eq (way := (gt s (12 + j) + a' * (gt s 17 % 2)) % 4) (c := c + j * (gt s 16 % 2) * 1000003) (by omega) ha'
  have hwp : 0 < gt ws j := by
    have := hwid (gt ws j) (by unfold gt; rw [List.getD_eq_getElem?_getD, List.getElem?_eq_getElem (by omega)]; exact List.getElem_mem _)
    omega
  have m1 : mulD (.int a) (.int (1 + gt s (4 + j) % 5)) = .ok (.int (a * (1 + gt s (4 + j) % 5))) := mulD_r (by omega) (by omega)
  have m2 : mulD (.int j) (.int (gt s 16 % 2)) = .ok (.int (j * (gt s 16 % 2))) := mulD_r (by omega) (by omega)
  have m3 : mulD (.int (j * (gt s 16 % 2))) (.int 1000003) = .ok (.int (j * (gt s 16 % 2) * 1000003)) := mulD_r (by omega) (by omega)
  have m4 : mulD (.int a') (.int (gt s 17 % 2)) = .ok (.int (a' * (gt s 17 % 2))) := mulD_r (by omega) (by omega)
  have m5 : modD (.int (a * (1 + gt s (4 + j) % 5) + gt s (8 + j))) (.int (gt ws j)) = .ok (.int ((a * (1 + gt s (4 + j) % 5) + gt s (8 + j)) % gt ws j)) := modD_i hwp
  have hz2 : (line.map VV.enc).length < sizeLine := smallT (by simp; omega)
  rw [show ((4 + j : Nat) : Int) = 4 + j by omega] at e1
  rw [show ((8 + j : Nat) : Int) = 8 + j by omega] at e2
  rw [show ((12 + j : Nat) : Int) = 12 + j by omega] at e3
  refine ⟨some (.int (c + j * (gt s 16 % 2) * 1000003)), ?_⟩
  rw [List.map_append, List.map_singleton]
  have tail := run_tail (M := M) (P := P) (L := L) (K := K) (x10 := x10) (W := .list (ws.map .int)) e3 e4 e5 m2 m3 m4 ev hz2
  by_cases h0 : j = 0
  · rw [if_pos h0] at hat
    subst hat
    exact run_at0 h0 tail
  · rw [if_neg h0] at hat
    rw [hat] at m5
    exact run_at1 h0 e1 e2 e6 m1 m5 tail
def W0 (s : List Int) (a : Nat) : Int := (gt s 12 + a * (gt s 17 % 2)) % 4
/-- a line -/
theorem line_run {c : Int} {M L K x5 : Option D} {s ws : List Int} {n a0 : Nat} (hl : s.length = 24) (hs : ∀ w ∈ s, 0 ≤ w) (hn : 1 ≤ n ∧ n ≤ 4) (hw : ws.length = 4) (ha : a0 < 47) (hwid : Wid ws) (x10 : Option D) :
    ∃ (line : List VV) (a : Int) (x5' x10' : Option D), line.length = n ∧ line[0]? = some (valV (W0 s a0) c a0) ∧
      forL (bName 5) b__law_ladder_9 ((List.range n).map fun (i : Nat) => PyData.int (i : Int)) [some (.int c), M, some (.int n), some (.list (s.map .int)), some (.list (ws.map .int)), x5, L, K, some (.int a0), some (.list []), x10] =
      .next [some (.int c), M, some (.int n), some (.list (s.map .int)), some (.list (ws.map .int)), x5', L, K, some (.int a), some (.list (line.map VV.enc)), x10'] := by
  obtain ⟨ρ2, eloop, a, line, y, z, ha', hll, hh, _, rfl⟩ := forL_ix (bnd := bName 5) (body := b__law_ladder_9) (fun (i : Nat) => PyData.int (i : Int)) (fun i ρ => ∃ (a : Nat) (line : List VV) (y z : Option D), a < 47 ∧ line.length = i ∧ (0 < i → line[0]? = some (valV (W0 s a0) c a0)) ∧ (i = 0 → a = a0) ∧
      ρ = [some (.int c), M, some (.int n), some (.list (s.map .int)), some (.list (ws.map .int)), y, L, K, some (.int a), some (.list (line.map VV.enc)), z])
    (List.range n) [some (.int c), M, some (.int n), some (.list (s.map .int)), some (.list (ws.map .int)), x5, L, K, some (.int a0), some (.list []), x10] ⟨a0, [], x5, x10, ha, rfl, by omega, fun _ => rfl, rfl⟩ (fun i x ρ hx ⟨a, line, y, z, ha', hll, hh, h0, e⟩ => by
      subst e
      obtain ⟨hi, ej⟩ := List.getElem?_eq_some_iff.mp hx
      rw [List.getElem_range] at ej
      subst ej
      simp only [List.length_range] at hi
      by_cases hi0 : i = 0
      · obtain rfl := h0 hi0
        obtain ⟨x, e⟩ := run_cell (c := c) (M := M) (P := some (.int n)) (L := L) (K := K) (x10 := z) (s := s) (ws := ws) (j := i) (a := a) (a' := a) (line := line) hl hs (by omega) hw ha' (by omega) (by rw [if_pos hi0]) hwid
        refine ⟨_, _, rfl, .inl e, a, _, some (.int i), x, ha', by simp [hll], fun _ => ?_, by omega, rfl⟩
        subst hi0
        have : line = [] := List.length_eq_zero_iff.mp hll
        subst this
        simp [W0]
      · have hwp : 1 ≤ gt ws i ∧ gt ws i ≤ 47 := hwid (gt ws i) (by unfold gt; rw [List.getD_eq_getElem?_getD, List.getElem?_eq_getElem (by omega)]; exact List.getElem_mem _)
        have p1 := Int.emod_nonneg ((a : Int) * (1 + gt s (4 + i) % 5) + gt s (8 + i)) (b := gt ws i) (by omega)
        have p2 := Int.emod_lt_of_pos ((a : Int) * (1 + gt s (4 + i) % 5) + gt s (8 + i)) (b := gt ws i) (by omega)
        obtain ⟨x, e⟩ := run_cell (c := c) (M := M) (P := some (.int n)) (L := L) (K := K) (x10 := z) (s := s) (ws := ws) (j := i) (a := a) (a' := (((a : Int) * (1 + gt s (4 + i) % 5) + gt s (8 + i)) % gt ws i).toNat) (line := line) hl hs (by omega) hw (by omega) (by omega) (by rw [if_neg hi0]; omega) hwid
        refine ⟨_, _, rfl, .inl e, _, _, some (.int i), x, by omega, by simp [hll], fun _ => ?_, by omega, rfl⟩
        rw [List.getElem?_append_left (by omega)]; exact hh (by omega))
  simp only [List.length_range] at hll hh
  exact ⟨line, a, y, z, hll, hh (by omega), eloop⟩
theorem run_row {C S W : D} {M : Option D} {Ls : List D} {w0 w4 : Int} {n k : Nat} {a0 : Nat} {R Ln : List D} {x5 x8 x9 x10 x5' x10' : Option D} {a : Int} (e0 : ixD S (.int 0) = .ok (.int w0)) (e4 : ixD S (.int 4) = .ok (.int w4)) (m1 : mulD (.int k) (.int (1 + w0 % 46)) = .ok (.int (k * (1 + w0 % 46))))
    (hat : (k * (1 + w0 % 46) + w4) % 47 = (a0 : Int)) (er : rng1 [.int n] = .ok R) (hz : Ls.length < sizeLine)
    (eloop : forL (bName 5) b__law_ladder_9 R [some C, M, some (.int n), some S, some W, x5, some (.list Ls), some (.int k), some (.int a0), some (.list []), x10] = .next [some C, M, some (.int n), some S, some W, x5', some (.list Ls), some (.int k), some (.int a), some (.list Ln), x10']) :
    b__law_ladder_6 [some C, M, some (.int n), some S, some W, x5, some (.list Ls), some (.int k), x8, x9, x10] = .next [some C, M, some (.int n), some S, some W, x5', some (.list (Ls ++ [.tuple Ln])), some (.int k), some (.int a), some (.list Ln), x10'] := by
  simp -implicitDefEqProofs [b__law_ladder_6, t__law_ladder_8, t__law_ladder_9, t__law_ladder_14, e0, e4, modD_i, m1, hat, er, eloop, hz, -rng1_e]
theorem run_lad {C M N S : D} {Q R W : List D} {A : List D} {x5 x7 x8 x9 x10 y5 : Option D} (es : g__law_stream [C, N] = .ok S) (eq : rng2 [.int 1, .int 4] = .ok Q)
    (l1 : forL (bName 5) b__law_ladder_3 Q [some C, some M, some N, some S, some (.list [.int 47]), none, none, none, none, none, none] = .next [some C, some M, some N, some S, some (.list W), y5, none, none, none, none, none]) (er : rng1 [M] = .ok R)
    (l2 : forL (bName 7) b__law_ladder_6 R [some C, some M, some N, some S, some (.list W), y5, some (.list []), none, none, none, none] = .next [some C, some M, some N, some S, some (.list W), x5, some (.list A), x7, x8, x9, x10]) :
    m__law_ladder [some C, some M, some N, none, none, none, none, none, none, none, none] = .ret (.list A) := by
  simp -implicitDefEqProofs [m__law_ladder, t__law_ladder_2, t__law_ladder_3, t__law_ladder_5, t__law_ladder_6, t__law_ladder_15, es, eq, l1, er, l2, -rng1_e]
/-- the ladder: its lines, each of n places, no two of them begun alike -/
theorem ladder_eq (c : Int) (m n : Nat) (hm : m ≤ 47) (hn : 1 ≤ n ∧ n ≤ 4) : ∃ lines : List (List VV), lines.length = m ∧ (∀ l ∈ lines, l.length = n) ∧ (∀ (i j : Nat) (hi : i < lines.length) (hj : j < lines.length), lines[i][0]? = lines[j][0]? → i = j) ∧
    g__law_ladder [.int c, .int m, .int n] = .ok (.list (lines.map encT)) := by
  obtain ⟨s, hl, hs, es⟩ := stream_ok c n
  obtain ⟨ws, hw, hwid, y5, l1⟩ := widths_run (C := .int c) (M := .int m) (P := .int n) hl hs
  have e0 : ixD (.list (s.map .int)) (.int 0) = .ok (.int (gt s 0)) := gt_ix (i := 0) (by omega)
  have e4 : ixD (.list (s.map .int)) (.int 4) = .ok (.int (gt s 4)) := gt_ix (i := 4) (by omega)
  obtain ⟨ρ2, eloop, lines, x5, x7, x8, x9, x10, h1, h2, h3, rfl⟩ := forL_ix (bnd := bName 7) (body := b__law_ladder_6) (fun (i : Nat) => PyData.int (i : Int)) (fun i ρ => ∃ (lines : List (List VV)) (x5 x7 x8 x9 x10 : Option D), lines.length = i ∧ (∀ l ∈ lines, l.length = n) ∧
      (∀ (k : Nat) (hk : k < lines.length), lines[k][0]? = some (valV (W0 s (((k : Int) * (1 + gt s 0 % 46) + gt s 4) % 47).toNat) c (((k : Int) * (1 + gt s 0 % 46) + gt s 4) % 47).toNat)) ∧
      ρ = [some (.int c), some (.int m), some (.int n), some (.list (s.map .int)), some (.list (ws.map .int)), x5, some (.list (lines.map encT)), x7, x8, x9, x10])
    (List.range m) [some (.int c), some (.int m), some (.int n), some (.list (s.map .int)), some (.list (ws.map .int)), y5, some (.list []), none, none, none, none] ⟨[], y5, none, none, none, none, rfl, by simp, fun k hk => absurd hk (by simp), rfl⟩ (fun i x ρ hx ⟨lines, x5, x7, x8, x9, x10, h1, h2, h3, e⟩ => by
      subst e
      obtain ⟨hi, ej⟩ := List.getElem?_eq_some_iff.mp hx
      rw [List.getElem_range] at ej
      subst ej
      simp only [List.length_range] at hi
      obtain ⟨line, a, y5', y10', hll, hh, el⟩ := line_run (c := c) (M := some (.int m)) (L := some (.list (lines.map encT))) (K := some (.int i)) (x5 := x5) (s := s) (ws := ws) (n := n) (a0 := (((i : Int) * (1 + gt s 0 % 46) + gt s 4) % 47).toNat) hl hs hn hw (by omega) hwid x10
      have m1 : mulD (.int i) (.int (1 + gt s 0 % 46)) = .ok (.int (i * (1 + gt s 0 % 46))) := mulD_r (by omega) (by omega)
      have r := run_row (x8 := x8) (x9 := x9) e0 e4 m1 (by omega) (rng1_n n (by omega)) (smallT (by simp; omega)) el
      refine ⟨_, _, rfl, .inl r, lines ++ [line], y5', some (.int i), some (.int a), some (.list (line.map VV.enc)), y10', by simp [h1], fun l hl => ?_, fun k hk => ?_, by rw [List.map_append]; rfl⟩
      · rcases List.mem_append.mp hl with hl | hl
        · exact h2 l hl
        · rw [List.mem_singleton.mp hl]; exact hll
      · by_cases hki : k < lines.length
        · rw [List.getElem_append_left hki]; exact h3 k hki
        · have : k = i := by simp at hk; omega
          subst this
          rw [List.getElem_append_right (by omega)]
          simpa using hh)
  simp only [List.length_range] at h1
  refine ⟨lines, h1, h2, fun i j hi hj e => ?_, runF_ret (run_lad es (rng2_n 1 3 (by omega)) l1 (rng1_n m (by omega)) eloop)⟩
  rw [h3 i hi, h3 j hj] at e
  have e := Option.some.inj e
  have := valV_inj (by unfold W0; omega) (by unfold W0; omega) (by omega) (by omega) e
  exact at_inj (m := 1 + gt s 0 % 46) (b := gt s 4) (by omega) (by omega) (by omega) (by omega)

theorem VV_eq (a b : VV) : eqD a.enc b.enc = .ok (.bool (decide (a = b))) := by
  simp only [eqD, VV.shp, Bool.and_self, okIf_t, VV.eqv]
theorem VV_isN (a : VV) : isD a.enc .none = .ok (.bool (decide (a = .n))) := by cases a <;> simp [VV.enc, isD]
theorem VV_isNotN (a : VV) : isNotD a.enc .none = .ok (.bool (!decide (a = .n))) := by cases a <;> simp [VV.enc, isNotD]
theorem VV_nb (a : VV) : isiD "bool" a.enc = false := by cases a <;> rfl
def hd (l : List VV) : VV := l.getD 0 .n
def valOf (l : List VV) (v : Nat) : VV := if v = l.length then .n else l.getD v .n
theorem T_ix {l : List VV} {i : Nat} (h : i < l.length) : ixD (encT l) (.int i) = .ok (l.getD i .n).enc := ixD_t (by omega) (by simp [h])
theorem T_len (l : List VV) : lenF [encT l] = .ok (.int l.length) := by simp [encT]
theorem value_of_eq {l : List VV} {v : Nat} (h : v ≤ l.length) : g_value_of [encT l, .int v] = .ok (valOf l v).enc := by
  refine runF_ret ?_
  have el := T_len l
  by_cases e : v = l.length
  · have e2 : eqD (.int v) (.int l.length) = .ok (.bool true) := by rw [eqD_ii]; simp [e]
    rw [valOf, if_pos e]
    generalize encT l = L at *
    simp -implicitDefEqProofs [m_value_of, el, e2, VV.enc, -eqD_ii]
  · have e1 := T_ix (l := l) (i := v) (by omega)
    have e2 : eqD (.int v) (.int l.length) = .ok (.bool false) := by rw [eqD_ii]; simp; omega
    rw [valOf, if_neg e]
    generalize encT l = L at *
    generalize (l.getD v .n).enc = V at *
    simp -implicitDefEqProofs [m_value_of, t_value_of_3, el, e2, e1, -eqD_ii]
theorem rank_eq (v : VV) : g__law_rank [v.enc] = .ok (K3 v) := by
  refine runF_ret ?_
  cases v <;> simp [m__law_rank, t__law_rank_3, t__law_rank_5, VV.enc, K3, isD, isiD]
theorem lex1 (a b : VV) : lexV [a] [b] = a.lt b := by
  by_cases h : a = b
  · subst h; simp [lexV, VV.irr]
  · simp [lexV, h]

theorem values_at_eq {lines : List (List VV)} {n v : Nat} (h : ∀ l ∈ lines, l.length = n) (hl : lines.length ≤ 1000) (hv : v ≤ n) :
    g_values_at [.list (lines.map encT), .int v] = .ok (.list (((inOrd (lines.map fun l => [valOf l v])).map hd).map VV.enc)) := by
  refine runF_ret ?_
  have e1 := lcL_all (ρ := [some (.list (lines.map encT)), some (.int v), none, none, none]) (bnd := bName 4) (ge := e_values_at_1) encT (fun l => encT [valOf l v]) lines (fun l hm => ⟨_, rfl, by
    have e1 := value_of_eq (l := l) (v := v) (by rw [h l hm]; exact hv)
    generalize valOf l v = q at *
    generalize encT l = L at *
    simp -implicitDefEqProofs [e_values_at_1, e1, encT]⟩)
  have ek : (lines.map fun l => encT [valOf l v]) = (lines.map fun l => [valOf l v]).map encT := by rw [List.map_map]; rfl
  rw [ek] at e1
  have e2 := in_order_eq (ks := lines.map fun l => [valOf l v]) (n := 1) (by omega) (fun k hk => by obtain ⟨x, _, rfl⟩ := List.mem_map.mp hk; rfl) (by omega) (by rw [List.length_map]; omega)
  have hl1 : ∀ k ∈ inOrd (lines.map fun l => [valOf l v]), k.length = 1 := fun k hk => by
    obtain ⟨x, _, rfl⟩ := List.mem_map.mp ((inOrd_mem _ k).mp hk); rfl
  have hlo := inOrd_len (lines.map fun l => [valOf l v])
  rw [List.length_map] at hlo
  generalize inOrd (lines.map fun l => [valOf l v]) = io at *
  have e3 := lcL_all (ρ := [some (.list (lines.map encT)), some (.int v), some (.list (io.map encT)), none, none]) (bnd := bName 3) (ge := e_values_at_2) encT (fun k => (hd k).enc) io (fun k hk => ⟨_, rfl, by
    have e1 : ixD (encT k) (.int 0) = .ok (hd k).enc := T_ix (i := 0) (by rw [hl1 k hk]; omega)
    generalize encT k = L at *
    simp -implicitDefEqProofs [e_values_at_2, e1]⟩)
  have hz1 : (lines.map encT).length ≤ sizeLine := small (by simp; omega)
  have hz2 : (io.map encT).length ≤ sizeLine := small (by simp; omega)
  rw [List.map_map]
  show _ = Out.ret (.list (io.map fun k => (hd k).enc))
  generalize io.map (fun k => (hd k).enc) = R at *
  generalize lines.map encT = LS at *
  generalize io.map encT = IO at *
  generalize (lines.map fun l => [valOf l v]).map encT = HS at *
  simp -implicitDefEqProofs [m_values_at, t_values_at_2, e1, e2, e3, hz1, hz2]
theorem up_eq {lines : List (List VV)} {n v k : Nat} (hn : 1 ≤ n) (h : ∀ l ∈ lines, l.length = n) (hv : v ≤ n) (hk : k < lines.length) (hd0 : ∀ (i j : Nat) (hi : i < lines.length) (hj : j < lines.length), lines[i][0]? = lines[j][0]? → i = j) :
    g_up [.list (lines.map encT), (hd lines[k]).enc, .int v] = .ok (valOf lines[k] v).enc := by
  refine runF_ret ?_
  have hloop := forL_ixR (bnd := bName 3) (body := b_up_1) encT (fun i ρ => i ≤ k ∧ ∃ x, ρ = [some (.list (lines.map encT)), some (hd lines[k]).enc, some (.int v), x]) (fun d => d = (valOf lines[k] v).enc)
    lines [some (.list (lines.map encT)), some (hd lines[k]).enc, some (.int v), none] ⟨by omega, none, rfl⟩ (fun i l ρ hx ⟨hik, x, e⟩ => by
      subst e
      obtain ⟨hi, el⟩ := List.getElem?_eq_some_iff.mp hx
      subst el
      have hli := h _ (List.getElem_mem hi)
      have hlk := h _ (List.getElem_mem hk)
      have e1 : ixD (encT lines[i]) (.int 0) = .ok (hd lines[i]).enc := T_ix (i := 0) (by omega)
      have e2 := VV_eq (hd lines[i]) (hd lines[k])
      have e3 := value_of_eq (l := lines[i]) (v := v) (by omega)
      refine ⟨_, rfl, ?_⟩
      by_cases q : i = k
      · subst q
        refine .inr ⟨_, ?_, rfl⟩
        rw [decide_eq_true rfl] at e2
        generalize encT lines[i] = L at *
        generalize (hd lines[i]).enc = V at *
        generalize (valOf lines[i] v).enc = V2 at *
        simp -implicitDefEqProofs [b_up_1, e1, e2, e3]
      · have hne : hd lines[i] ≠ hd lines[k] := fun e => q (hd0 i k hi hk (by
          unfold hd at e
          rw [List.getD_eq_getElem?_getD, List.getD_eq_getElem?_getD, List.getElem?_eq_getElem (by omega), List.getElem?_eq_getElem (by omega)] at e
          rw [List.getElem?_eq_getElem (by omega), List.getElem?_eq_getElem (by omega)]
          simpa using e))
        rw [decide_eq_false hne] at e2
        refine .inl ⟨_, .inl ?_, by omega, some (encT lines[i]), rfl⟩
        generalize encT lines[i] = L at *
        generalize (hd lines[i]).enc = V at *
        generalize (hd lines[k]).enc = V2 at *
        simp -implicitDefEqProofs [b_up_1, e1, e2])
  generalize (hd lines[k]).enc = V at *
  rcases hloop with ⟨ρ2, e, hik, x, rfl⟩ | ⟨d, e, rfl⟩
  · omega
  · generalize lines.map encT = LS at *
    simp -implicitDefEqProofs [m_up, e]
theorem enc_shp' (n : Nat) (vs : List VV) : shp (n + 1) (.list (vs.map VV.enc)) = true := by simp [shp_lst, VV.shp]
theorem K3_ltD (a b : VV) : ltD (K3 a) (K3 b) = .ok (.bool (a.lt b)) := by
  have h1 := K3_alike a b
  have h2 := K3_lt a b
  have d1 := depth3 a
  cases a <;> cases b <;> simp only [K3] at h1 h2 d1 ⊢ <;> (simp only [ltD, h1, h2, Bool.true_and]; exact okIf_p (by omega))
theorem in_list (v : VV) (us : List VV) : inD v.enc (.list (us.map VV.enc)) = .ok (.bool (decide (v ∈ us))) := by
  have h : (us.map VV.enc).any (fun z => PyData.eqv z v.enc) = decide (v ∈ us) := by
    rw [Bool.eq_iff_iff, List.any_map, List.any_eq_true, decide_eq_true_eq]
    simp only [Function.comp, VV.eqv, decide_eq_true_eq]
    exact ⟨fun ⟨x, hx, e⟩ => e ▸ hx, fun hx => ⟨v, hx, rfl⟩⟩
  have h2 := VV.shp 16 v
  have h3 := enc_shp' 15 us
  cases v <;> simp only [VV.enc, inD] at h h2 ⊢ <;> (rw [h2, h3, h]; rfl)
theorem good_eq {fs us : List VV} (hl : fs.length ≤ 1000) (hl2 : us.length ≤ 1000) (hi : fs.Pairwise (fun a b => a.lt b = true)) (hm : ∀ x, x ∈ fs ↔ x ∈ us) : g__law_good [.list (fs.map VV.enc), .list (us.map VV.enc)] = .ok (.bool true) := by
  refine runF_ret ?_
  have c1 := lcL_all (ρ := [some (.list (fs.map VV.enc)), some (.list (us.map VV.enc)), none, none]) (bnd := bName 3) (ge := e__law_good_1) VV.enc (fun _ => .bool false) fs (fun x _ => ⟨_, rfl, by simp [e__law_good_1, VV_nb]⟩)
  have a1 := @anyF_e (fs.map fun _ => false)
  rw [List.map_map] at a1
  have a1 : anyF [.list (fs.map fun _ => .bool false)] = .ok (.bool false) := by
    refine Eq.trans a1 ?_
    simp
  obtain ⟨ρ2, eloop, k, rfl⟩ := forL_ix (bnd := bName 2) (body := b__law_good_3) (fun (i : Nat) => PyData.int ((1 + i : Nat) : Int)) (fun i ρ => ∃ k, ρ = [some (.list (fs.map VV.enc)), some (.list (us.map VV.enc)), k, none])
    (List.range (fs.length - 1)) [some (.list (fs.map VV.enc)), some (.list (us.map VV.enc)), none, none] ⟨none, rfl⟩ (fun i x ρ hx ⟨k, e⟩ => by
      subst e
      obtain ⟨hi2, ej⟩ := List.getElem?_eq_some_iff.mp hx
      rw [List.getElem_range] at ej
      subst ej
      simp only [List.length_range] at hi2
      have e1 : ixD (.list (fs.map VV.enc)) (.int (((1 + i : Nat) : Int) - 1)) = .ok (fs[i]'(by omega)).enc := ixD_l (by omega) (by rw [show (((1 + i : Nat) : Int) - 1).toNat = i by omega]; simp [show i < fs.length by omega])
      have e2 : ixD (.list (fs.map VV.enc)) (.int ((1 + i : Nat) : Int)) = .ok (fs[1 + i]'(by omega)).enc := ixD_l (by omega) (by rw [show (((1 + i : Nat) : Int)).toNat = 1 + i by omega]; simp [show 1 + i < fs.length by omega])
      have e3 := rank_eq (fs[i]'(by omega))
      have e4 := rank_eq (fs[1 + i]'(by omega))
      have e5 := K3_ltD (fs[i]'(by omega)) (fs[1 + i]'(by omega))
      rw [List.pairwise_iff_getElem.mp hi i (1 + i) (by omega) (by omega) (by omega)] at e5
      refine ⟨_, _, rfl, .inl ?_, some (.int ((1 + i : Nat) : Int)), rfl⟩
      generalize (fs[i]'(by omega)).enc = A at *
      generalize (fs[1 + i]'(by omega)).enc = B at *
      generalize PyData.list (fs.map VV.enc) = F at *
      generalize PyData.list (us.map VV.enc) = U at *
      generalize ((1 + i : Nat) : Int) = ii at *
      simp -implicitDefEqProofs [b__law_good_3, e1, e2, e3, e4, e5])
  have er : rng2 [.int 1, .int fs.length] = .ok ((List.range (fs.length - 1)).map fun (i : Nat) => PyData.int ((1 + i : Nat) : Int)) := by
    by_cases h0 : fs.length = 0
    · rw [h0]; rfl
    · have := rng2_n 1 (fs.length - 1) (by omega)
      rwa [show 1 + (fs.length - 1) = fs.length by omega] at this
  have c2 := fun k => lcL_all (ρ := [some (.list (fs.map VV.enc)), some (.list (us.map VV.enc)), k, none]) (bnd := bName 3) (ge := e__law_good_6) VV.enc (fun x => .bool (decide (x ∈ us))) fs (fun x _ => ⟨_, rfl, by
    have e := in_list x us
    generalize x.enc = A at *
    simp -implicitDefEqProofs [e__law_good_6, e]⟩)
  have c3 := fun k => lcL_all (ρ := [some (.list (fs.map VV.enc)), some (.list (us.map VV.enc)), k, none]) (bnd := bName 3) (ge := e__law_good_6_1) VV.enc (fun x => .bool (decide (x ∈ fs))) us (fun x _ => ⟨_, rfl, by
    have e := in_list x fs
    generalize x.enc = A at *
    simp -implicitDefEqProofs [e__law_good_6_1, e]⟩)
  have t2 : allF [.list (fs.map fun x => .bool (decide (x ∈ us)))] = .ok (.bool true) := by
    have := @allF_e (fs.map fun x => decide (x ∈ us))
    have e : (fs.map fun x => decide (x ∈ us)).all id = true := by
      rw [List.all_map, List.all_eq_true]
      intro x hx; exact decide_eq_true ((hm x).mp hx)
    rw [List.map_map, e] at this
    exact this
  have t3 : allF [.list (us.map fun x => .bool (decide (x ∈ fs)))] = .ok (.bool true) := by
    have := @allF_e (us.map fun x => decide (x ∈ fs))
    have e : (us.map fun x => decide (x ∈ fs)).all id = true := by
      rw [List.all_map, List.all_eq_true]
      intro x hx; exact decide_eq_true ((hm x).mpr hx)
    rw [List.map_map, e] at this
    exact this
  have el : lenF [.list (fs.map VV.enc)] = .ok (.int fs.length) := by simp
  have s1 : seqD (.list (fs.map VV.enc)) = .ok (fs.map VV.enc) := rfl
  have s2 : seqD (.list (us.map VV.enc)) = .ok (us.map VV.enc) := rfl
  have z1 : (fs.map VV.enc).length ≤ sizeLine := small (by simp; omega)
  have z2 : (us.map VV.enc).length ≤ sizeLine := small (by simp; omega)
  have il : isiD "list" (.list (fs.map VV.enc)) = true := rfl
  have c2 := c2 k
  have c3 := c3 k
  generalize PyData.list (fs.map VV.enc) = F at *
  generalize PyData.list (us.map VV.enc) = U at *
  generalize fs.map VV.enc = FL at *
  generalize us.map VV.enc = UL at *
  generalize (fs.map fun x => PyData.bool (decide (x ∈ us))) = B1 at *
  generalize (us.map fun x => PyData.bool (decide (x ∈ fs))) = B2 at *
  generalize (fs.map fun _ => PyData.bool false) = B0 at *
  generalize (List.range (fs.length - 1)).map (fun (i : Nat) => PyData.int ((1 + i : Nat) : Int)) = R at *
  simp -implicitDefEqProofs [m__law_good, t__law_good_3, t__law_good_6, il, s1, s2, z1, z2, c1, a1, el, er, eloop, c2, c3, t2, t3]
theorem vals_good {lines : List (List VV)} {n v : Nat} (h : ∀ l ∈ lines, l.length = n) (hl : lines.length ≤ 1000) : ((inOrd (lines.map fun l => [valOf l v])).map hd).length ≤ 1000 ∧ ((inOrd (lines.map fun l => [valOf l v])).map hd).Pairwise (fun a b => a.lt b = true) ∧
    ∀ x, x ∈ (inOrd (lines.map fun l => [valOf l v])).map hd ↔ x ∈ lines.map fun l => valOf l v := by
  have hlo := inOrd_len (lines.map fun l => [valOf l v])
  rw [List.length_map] at hlo
  have hmem := inOrd_mem (lines.map fun l => [valOf l v])
  refine ⟨by rw [List.length_map]; omega, ?_, fun x => ?_⟩
  · have hi := inOrd_inc (lines.map fun l => [valOf l v])
    have hs : ∀ k ∈ inOrd (lines.map fun l => [valOf l v]), k = [hd k] := fun k hk => by
      obtain ⟨x, _, rfl⟩ := List.mem_map.mp ((hmem k).mp hk); rfl
    refine List.pairwise_map.mpr (List.Pairwise.imp_of_mem (fun {a b} ha hb q => ?_) hi)
    rw [hs a ha, hs b hb, lex1] at q
    exact q
  · simp only [List.mem_map]
    constructor
    · rintro ⟨k, hk, rfl⟩
      obtain ⟨l, hl, rfl⟩ := List.mem_map.mp ((hmem k).mp hk)
      exact ⟨l, hl, rfl⟩
    · rintro ⟨l, hl, rfl⟩
      exact ⟨[valOf l v], (hmem _).mpr (List.mem_map.mpr ⟨l, hl, rfl⟩), rfl⟩
def dueL (lines : List (List VV)) (n v : Nat) : List VV := if v < n then lines.map fun l => valOf l v else [.n]
theorem due_mem {lines : List (List VV)} {n v : Nat} (h : ∀ l ∈ lines, l.length = n) (h0 : 0 < lines.length) (hv : v ≤ n) (x : VV) : x ∈ dueL lines n v ↔ x ∈ lines.map fun l => valOf l v := by
  unfold dueL
  split
  · exact Iff.rfl
  · have e : v = n := by omega
    simp only [List.mem_singleton, List.mem_map]
    constructor
    · rintro rfl
      exact ⟨lines[0], List.getElem_mem h0, by rw [valOf, if_pos (by rw [h _ (List.getElem_mem h0)]; exact e)]⟩
    · rintro ⟨l, hl, rfl⟩
      rw [valOf, if_pos (by rw [h l hl]; exact e)]
theorem VV_ne (a b : VV) : neD a.enc b.enc = .ok (.bool (!decide (a = b))) := by
  simp only [neD, VV.shp, Bool.and_self, okIf_t, VV.eqv]
theorem VV_ne_self (a : VV) : neD a.enc a.enc = .ok (.bool false) := by rw [VV_ne]; simp
theorem run21 {S H LS HD W DU F V LK D0 : D} {m n v k : Nat} {x11 x12 : Option D} {dl : Nat} (e1 : ixD LS (.int k) = .ok LK) (e2 : ixD LK (.int 0) = .ok D0) (e3 : g_up [HD, D0, .int v] = .ok V) (hb : isiD "bool" V = false)
    (e4 : lenF [DU] = .ok (.int dl)) (hdl : 0 < dl) {DK : D} (e5 : ixD DU (.int ((k : Int) % dl)) = .ok DK) (hn : ¬ v < n → V = .none) (hn2 : v < n → DK = V) (hself : neD V V = .ok (.bool false)) :
    b_law_21 [some S, some H, some (.int m), some (.int n), some LS, some HD, some W, some (.int v), some DU, some F, some (.int k), x11, x12] = .next [some S, some H, some (.int m), some (.int n), some LS, some HD, some W, some (.int v), some DU, some F, some (.int k), some V, x12] := by
  have e6 : modD (.int (k : Int)) (.int (dl : Int)) = .ok (.int ((k : Int) % dl)) := modD_i (by omega)
  by_cases q : v < n
  · have := hn2 q
    subst this
    simp -implicitDefEqProofs [b_law_21, t_law_23, e1, e2, e3, hb, e4, e6, e5, q, hself]
  · have := hn q
    subst this
    simp -implicitDefEqProofs [b_law_21, t_law_23, e1, e2, e3, hb, e4, e6, e5, q, hself]
theorem run_b11 {S H LS HD W DU : D} {m n v : Nat} {x8 x9 x10 x11 : Option D} {ds dds fs : List D} {f0 : D} {R : List D} {y10 y11 : Option D} (hdu : if v < n then (seqD LS = .ok ds ∧ ds.length ≤ sizeLine ∧ (∀ x8, lcL (bName 12) tYesX e_law_14 [some S, some H, some (.int m), some (.int n), some LS, some HD, some W, some (.int v), x8, x9, x10, x11, none] ds = .ok dds) ∧ DU = .list dds) else DU = .list [.none])
    (hv : g_values_at [HD, .int v] = .ok (.list fs)) (hg : g__law_good [.list fs, DU] = .ok (.bool true)) (hf : ixD (.list fs) (.int 0) = .ok f0) (hz : fs.length < sizeLine) (er : rng1 [.int m] = .ok R)
    (el : forL (bName 10) b_law_21 R [some S, some H, some (.int m), some (.int n), some LS, some HD, some W, some (.int v), some DU, some (.list (fs ++ [f0])), x10, x11, none] = .next [some S, some H, some (.int m), some (.int n), some LS, some HD, some W, some (.int v), some DU, some (.list (fs ++ [f0])), y10, y11, none]) :
    b_law_11 [some S, some H, some (.int m), some (.int n), some LS, some HD, some W, some (.int v), x8, x9, x10, x11, none] = .next [some S, some H, some (.int m), some (.int n), some LS, some HD, some W, some (.int v), some DU, some (.list (fs ++ [f0])), y10, y11, none] := by
  have t15 : ∀ x9, t_law_15 [some S, some H, some (.int m), some (.int n), some LS, some HD, some W, some (.int v), some DU, x9, x10, x11, none] = .next [some S, some H, some (.int m), some (.int n), some LS, some HD, some W, some (.int v), some DU, some (.list (fs ++ [f0])), y10, y11, none] := fun x9 => by
    clear hdu
    simp -implicitDefEqProofs [t_law_15, t_law_16, t_law_18, t_law_19, t_law_21, hv, hg, hf, hz, er, el, -rng1_e]
  by_cases q : v < n
  · rw [if_pos q] at hdu
    obtain ⟨h1, h2, h3, rfl⟩ := hdu
    simp -implicitDefEqProofs [b_law_11, t_law_13, q, h1, h2, h3, t15]
  · rw [if_neg q] at hdu
    subst hdu
    simp -implicitDefEqProofs [b_law_11, t_law_13, q, t15]
theorem level_run {S H W : D} {lines : List (List VV)} {n v : Nat} {x8 x9 x10 x11 : Option D} (hn : 1 ≤ n ∧ n ≤ 4) (h : ∀ l ∈ lines, l.length = n) (hl : lines.length ≤ 1000) (h0 : 0 < lines.length) (hv : v ≤ n) (hd0 : ∀ (i j : Nat) (hi : i < lines.length) (hj : j < lines.length), lines[i][0]? = lines[j][0]? → i = j) :
    ∃ y8 y9 y10 y11, b_law_11 [some S, some H, some (.int lines.length), some (.int n), some (.list (lines.map encT)), some (.list (lines.map encT)), some W, some (.int v), x8, x9, x10, x11, none] =
      .next [some S, some H, some (.int lines.length), some (.int n), some (.list (lines.map encT)), some (.list (lines.map encT)), some W, some (.int v), y8, y9, y10, y11, none] := by
  obtain ⟨f1, f2, f3⟩ := vals_good (v := v) h hl
  have hva := values_at_eq h hl hv
  have hne : lines.map (fun l => valOf l v) ≠ [] := fun e => by have := congrArg List.length e; simp at this; rw [this] at h0; simp at h0
  generalize (inOrd (lines.map fun l => [valOf l v])).map hd = fs at *
  have hfs : fs ≠ [] := fun e => by
    obtain ⟨x, hx⟩ := List.exists_mem_of_ne_nil _ hne
    have := (f3 x).mpr hx
    rw [e] at this; cases this
  have hfp : 0 < fs.length := List.length_pos_iff.mpr hfs
  have hdl : (dueL lines n v).length ≤ 1000 := by unfold dueL; split <;> simp <;> omega
  have hdp : 0 < (dueL lines n v).length := by unfold dueL; split <;> simp <;> omega
  have hg := good_eq (fs := fs) (us := dueL lines n v) f1 hdl f2 fun x => (f3 x).trans (due_mem h h0 hv x).symm
  have hf : ixD (.list (fs.map VV.enc)) (.int 0) = .ok (fs[0]).enc := ixD_l (by omega) (by simp [hfp])
  obtain ⟨ρ2, el, y10, y11, rfl⟩ := forL_ix (bnd := bName 10) (body := b_law_21) (fun (i : Nat) => PyData.int (i : Int)) (fun i ρ => ∃ y10 y11, ρ = [some S, some H, some (.int lines.length), some (.int n), some (.list (lines.map encT)), some (.list (lines.map encT)), some W, some (.int v), some (.list ((dueL lines n v).map VV.enc)), some (.list (fs.map VV.enc ++ [(fs[0]).enc])), y10, y11, none])
    (List.range lines.length) [some S, some H, some (.int lines.length), some (.int n), some (.list (lines.map encT)), some (.list (lines.map encT)), some W, some (.int v), some (.list ((dueL lines n v).map VV.enc)), some (.list (fs.map VV.enc ++ [(fs[0]).enc])), x10, x11, none] ⟨x10, x11, rfl⟩ (fun k x ρ hx ⟨y10, y11, e⟩ => by
      subst e
      obtain ⟨hi, ej⟩ := List.getElem?_eq_some_iff.mp hx
      rw [List.getElem_range] at ej
      subst ej
      simp only [List.length_range] at hi
      have hlk := h _ (List.getElem_mem hi)
      have e1 : ixD (.list (lines.map encT)) (.int k) = .ok (encT lines[k]) := ixD_l (by omega) (by simp [hi])
      have e2 : ixD (encT lines[k]) (.int 0) = .ok (hd lines[k]).enc := T_ix (i := 0) (by omega)
      have e3 := up_eq hn.1 h hv hi hd0
      have e4 : lenF [.list ((dueL lines n v).map VV.enc)] = .ok (.int (dueL lines n v).length) := by simp
      have p1 := Int.emod_nonneg (k : Int) (b := ((dueL lines n v).length : Int)) (by omega)
      have p2 := Int.emod_lt_of_pos (k : Int) (b := ((dueL lines n v).length : Int)) (by omega)
      have hlt : ((k : Int) % ((dueL lines n v).length : Int)).toNat < (dueL lines n v).length := by omega
      have e5 : ixD (.list ((dueL lines n v).map VV.enc)) (.int ((k : Int) % ((dueL lines n v).length : Int))) = .ok ((dueL lines n v)[((k : Int) % ((dueL lines n v).length : Int)).toNat]).enc := ixD_l p1 (by simp [hlt])
      refine ⟨_, _, rfl, .inl (run21 e1 e2 e3 (VV_nb _) e4 hdp e5 (fun q => ?_) (fun q => ?_) (VV_ne_self _)), some (.int k), some (valOf lines[k] v).enc, rfl⟩
      · rw [valOf, if_pos (by omega)]; rfl
      · have e6 : dueL lines n v = lines.map fun l => valOf l v := by rw [dueL, if_pos q]
        have e7 : ((k : Int) % ((dueL lines n v).length : Int)).toNat = k := by
          rw [e6, List.length_map, Int.emod_eq_of_lt (by omega) (by omega)]; omega
        have e8 : ∀ (j : Nat) (hj : j < (dueL lines n v).length), j = k → (dueL lines n v)[j] = valOf lines[k] v := by
          intro j hj ej
          subst ej
          simp only [e6, List.getElem_map]
        exact congrArg VV.enc (e8 _ hlt e7))
  refine ⟨_, _, _, _, run_b11 (ds := lines.map encT) (dds := (dueL lines n v).map VV.enc) ?_ hva hg hf (smallT (by simp; omega)) (rng1_n _ (by omega)) el⟩
  by_cases q : v < n
  · rw [if_pos q]
    refine ⟨rfl, small (by simp; omega), fun x8 => ?_, rfl⟩
    have e6 : dueL lines n v = lines.map fun l => valOf l v := by rw [dueL, if_pos q]
    rw [e6, List.map_map]
    exact lcL_all encT (fun l => (valOf l v).enc) lines fun l hm => ⟨_, rfl, by
      have hl1 := h l hm
      have e1 := T_ix (l := l) (i := v) (by omega)
      have e3 : valOf l v = l.getD v .n := by rw [valOf, if_neg (by omega)]
      rw [e3]
      generalize (l.getD v .n).enc = V at *
      generalize encT l = L at *
      simp -implicitDefEqProofs [e_law_14, e1]⟩
  · rw [if_neg q, dueL, if_neg q]; rfl
theorem run_t8 {S H M LS D0 : D} {n : Nat} {R : List D} {y7 y8 y9 y10 y11 : Option D} (e0 : ixD LS (.int 0) = .ok D0) (el : lenF [D0] = .ok (.int n)) (er : rng1 [.int ((n : Int) + 1)] = .ok R) (eq : eqD LS LS = .ok (.bool true)) (ec : lstF [LS] = .ok LS)
    (eloop : forL (bName 7) b_law_11 R [some S, some H, some M, some (.int n), some LS, some LS, some (.int n), none, none, none, none, none, none] = .next [some S, some H, some M, some (.int n), some LS, some LS, some (.int n), y7, y8, y9, y10, y11, none]) :
    t_law_7 [some S, some H, some M, some (.int n), some LS, none, none, none, none, none, none, none, none] = .ret (.bool true) := by
  have ew : g_whole_of [LS] = .ok (.int n) := by
    refine runF_ret ?_
    simp -implicitDefEqProofs [m_whole_of, e0, el]
  have ei : g__law_whole [.int n] = .ok (.bool true) := by
    refine runF_ret ?_
    simp [m__law_whole, isiD]
  simp -implicitDefEqProofs [t_law_7, t_law_8, t_law_9, t_law_11, t_law_25, ec, ew, ei, er, eloop, eq, -rng1_e]
theorem law_true : ∀ ns : List Int, ns.length ≤ 63 → g_law [.list (ns.map .int)] = .ok (.bool true) := by
  intro ns hl
  refine runF_ret ?_
  have ec0 := cell_at ns 0 (by decide)
  have ec1 := cell_at ns 1 (by decide)
  have ec2 := cell_at ns 2 (by decide)
  generalize cell ns (0 : Int).toNat = hd0 at ec0
  generalize cell ns (1 : Int).toNat = c1 at ec1
  generalize cell ns (2 : Int).toNat = c2 at ec2
  generalize PyData.list (ns.map .int) = S at *
  have h5 : ∀ m : Nat, 1 ≤ m → m ≤ 47 → t_law_5 [some S, some (.int hd0), some (.int m), none, none, none, none, none, none, none, none, none, none] = .ret (.bool true) := fun m h1 h2 => by
    obtain ⟨lines, l1, l2, l3, el⟩ := ladder_eq c1 m (1 + c2 % 4).toNat h2 (by omega)
    have hn1 : 1 ≤ (1 + c2 % 4).toNat ∧ (1 + c2 % 4).toNat ≤ 4 := by omega
    have en : (((1 + c2 % 4).toNat : Nat) : Int) = 1 + c2 % 4 := by omega
    have e0 : ixD (.list (lines.map encT)) (.int 0) = .ok (encT (lines[0]'(by omega))) := ixD_l (by omega) (by simp [show 0 < lines.length by omega])
    have e1 := T_len (lines[0]'(by omega))
    rw [l2 _ (List.getElem_mem (by omega))] at e1
    generalize (1 + c2 % 4).toNat = n at *
    obtain ⟨ρ2, eloop, y7, y8, y9, y10, y11, rfl⟩ := forL_ix (bnd := bName 7) (body := b_law_11) (fun (i : Nat) => PyData.int (i : Int)) (fun i ρ => ∃ y7 y8 y9 y10 y11, ρ = [some S, some (.int hd0), some (.int lines.length), some (.int n), some (.list (lines.map encT)), some (.list (lines.map encT)), some (.int n), y7, y8, y9, y10, y11, none])
      (List.range (n + 1)) [some S, some (.int hd0), some (.int lines.length), some (.int n), some (.list (lines.map encT)), some (.list (lines.map encT)), some (.int n), none, none, none, none, none, none] ⟨none, none, none, none, none, rfl⟩ (fun v x ρ hx ⟨y7, y8, y9, y10, y11, e⟩ => by
        subst e
        obtain ⟨hi, ej⟩ := List.getElem?_eq_some_iff.mp hx
        rw [List.getElem_range] at ej
        subst ej
        simp only [List.length_range] at hi
        obtain ⟨z8, z9, z10, z11, e⟩ := level_run (S := S) (H := .int hd0) (W := .int n) (lines := lines) (n := n) (v := v) (x8 := y8) (x9 := y9) (x10 := y10) (x11 := y11) hn1 l2 (by omega) (by omega) (by omega) l3
        exact ⟨_, _, rfl, .inl e, some (.int v), z8, z9, z10, z11, rfl⟩)
    have r := run_t8 (M := .int lines.length) e0 e1 (rng1_n (n + 1) (by omega)) (eqD_self (lst_shp _ _)) rfl eloop
    rw [l1] at r
    rw [en] at el r
    generalize PyData.list (lines.map encT) = LS at *
    simp -implicitDefEqProofs [t_law_5, t_law_6, ec1, ec2, modD_i, el, r]
  have r1 := h5 (1 + hd0 / 4 % 12).toNat (by omega) (by omega)
  have r2 := h5 (36 + hd0 / 4 % 5).toNat (by omega) (by omega)
  rw [show (((1 + hd0 / 4 % 12).toNat : Nat) : Int) = 1 + hd0 / 4 % 12 by omega] at r1
  rw [show (((36 + hd0 / 4 % 5).toNat : Nat) : Int) = 36 + hd0 / 4 % 5 by omega] at r2
  by_cases h : hd0 % 4 = 2
  · simp -implicitDefEqProofs [m_law, t_law_2, t_law_3, ec0, modD_i, fdivD_i, h, r2]
  · simp -implicitDefEqProofs [m_law, t_law_2, t_law_3, ec0, modD_i, fdivD_i, h, r1]

end LK
open PySem PySem.W PyProof.Rows
set_option maxRecDepth 100000 in
set_option maxHeartbeats 0 in
theorem PySem.Challenge.cw_cubebook_k11_values_at_a_level_holds : PySem.Challenge.rw_cubebook_k11_values_at_a_level.Holds := by
  w_on; o_law; k_head; (case hw => w_witness2)
  k_fill
  refine MV.law_walk (l := PySem.Challenge.rw_cubebook_k11_values_at_a_level) (k := 8) (x := "_law_script") LK.g_law rfl rfl ⟨rfl, by decide, by decide⟩ (fun w h Y => PySem.W.kIn_of Y) (fun w h KX => rfl) LK.law_true ?F
  case F =>
    intro w mg fa h KX G hmg
    refine' LK.all_mk KX G hmg ?a1 ?l1 ?d1 ?k1 ?a2 ?l2 ?d2 ?k2 ?a3 ?l3 ?d3 ?k3 ?a4 ?l4 ?d4 ?k4 ?a5 ?l5 ?d5 ?k5 ?a6 ?l6 ?d6 ?k6 ?a7 ?l7 ?d7 ?k7 ?a8 ?l8 ?d8 ?k8 ?a9 ?l9 ?d9 ?k9 ?a10 ?l10 ?d10 ?k10 ?a11 ?l11 ?d11 ?k11 ?a12 ?l12 ?d12 ?k12 ?a13 ?l13 ?d13 ?k13 ?a14 ?l14 ?d14 ?k14 ?a15 ?l15 ?d15 ?k15 ?a16 ?l16 ?d16 ?k16 ?a17 ?l17 ?d17 ?k17 ?z_all ?z_any ?z_bool ?z_int ?z_isinstance ?z_len ?z_list ?z_range ?z_sorted ?z_str ?z_tuple
    (case a1 => k_is); (case l1 => k_is); (case d1 => k_is); (case k1 => k_is)
    (case a2 => k_is); (case l2 => k_is); (case d2 => k_is); (case k2 => k_is)
    (case a3 => k_is); (case l3 => k_is); (case d3 => k_is); (case k3 => k_is)
    (case a4 => k_is); (case l4 => k_is); (case d4 => k_is); (case k4 => k_is)
    (case a5 => k_is); (case l5 => k_is); (case d5 => k_is); (case k5 => k_is)
    (case a6 => k_is); (case l6 => k_is); (case d6 => k_is); (case k6 => k_is)
    (case a7 => k_is); (case l7 => k_is); (case d7 => k_is); (case k7 => k_is)
    (case a8 => k_is); (case l8 => k_is); (case d8 => k_is); (case k8 => k_is)
    (case a9 => k_is); (case l9 => k_is); (case d9 => k_is); (case k9 => k_is)
    (case a10 => k_is); (case l10 => k_is); (case d10 => k_is); (case k10 => k_is)
    (case a11 => k_is); (case l11 => k_is); (case d11 => k_is); (case k11 => k_is)
    (case a12 => k_is); (case l12 => k_is); (case d12 => k_is); (case k12 => k_is)
    (case a13 => k_is); (case l13 => k_is); (case d13 => k_is); (case k13 => k_is)
    (case a14 => k_is); (case l14 => k_is); (case d14 => k_is); (case k14 => k_is)
    (case a15 => k_is); (case l15 => k_is); (case d15 => k_is); (case k15 => k_is)
    (case a16 => k_is); (case l16 => k_is); (case d16 => k_is); (case k16 => k_is)
    (case a17 => k_is); (case l17 => k_is); (case d17 => k_is); (case k17 => k_is)
    (case z_all => k_is); (case z_any => k_is); (case z_bool => k_is); (case z_int => k_is)
    (case z_isinstance => k_is); (case z_len => k_is); (case z_list => k_is); (case z_range => k_is)
    (case z_sorted => k_is); (case z_str => k_is); (case z_tuple => k_is)
