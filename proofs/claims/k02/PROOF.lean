import PyProof.Rows.All
import Wide.All
import OpenK.AllK
import Wide.FinOn
import HandS.ForMost
import HandS.ForExc
import HandS.Deep
import HandS.Wide
import HandS.TupAny
import HandS.TupLe
import HandS.IsInst
import HandS.Conv
import HandS.SortInts
import HandS.RaiseMore
import HandS.Zip
import HandS.ForDict
import HandS.StrMore
import HandS.MapJoin
import PySem.Challenge.RW_cubebook_k02_one_value_ahead
set_option Elab.async false
set_option linter.all false
set_option maxRecDepth 100000
set_option maxHeartbeats 4000000
set_option Elab.async false
set_option linter.all false
set_option maxRecDepth 100000
set_option maxHeartbeats 4000000
/-! MV: a value layer over the hand layer: data as PyData, a mirror for each def, own lists by ownership. -/
namespace MV
open PySem L2

abbrev D := PyData
abbrev Env := List (Option D)

inductive R (α : Type) where
  | ok (a : α)
  | exc (n : Str)
  | stuck
def R.bind {α β : Type} : R α → (α → R β) → R β
  | .ok a, f => f a
  | .exc n, _ => .exc n
  | .stuck, _ => .stuck
@[simp] theorem R.bind_ok {α β : Type} (a : α) (f : α → R β) : (R.ok a).bind f = f a := rfl
@[simp] theorem R.bind_exc {α β : Type} (n : Str) (f : α → R β) : (R.exc n).bind f = .exc n := rfl
@[simp] theorem R.bind_stuck {α β : Type} (f : α → R β) : (R.stuck : R α).bind f = .stuck := rfl

/-! ### data in the heap -/
def SLo (O : List Addr) (H : Hp) (a : Addr) (xs : List V) : Prop := a ∉ O ∧ Rd H a (.lst xs)
def STo (O : List Addr) (H : Hp) (a : Addr) (xs : List V) : Prop := a ∉ O ∧ Rd H a (.tup xs)

mutual
inductive Rp (K : PySem.W.Frag) (O : List Addr) (H : Hp) : V → PyData → Prop
  | non : Rp K O H .non .none
  | bl (b : Bool) : Rp K O H (.bl b) (.bool b)
  | int (i : Int) : Rp K O H (.int i) (.int i)
  | str (x : Str) : PyData.strOk x = true → Rp K O H (.str x) (.str x)
  | lst {a : Addr} {xs : List V} {ds : List PyData} : SLo O H a xs → RpAll K O H xs ds → Rp K O H (.ref a) (.list ds)
  | tup {a : Addr} {xs : List V} {ds : List PyData} : STo O H a xs → RpAll K O H xs ds → Rp K O H (.ref a) (.tuple ds)
inductive RpAll (K : PySem.W.Frag) (O : List Addr) (H : Hp) : List V → List PyData → Prop
  | nil : RpAll K O H [] []
  | cons {v : V} {vs : List V} {d : PyData} {ds : List PyData} : Rp K O H v d → RpAll K O H vs ds → RpAll K O H (v :: vs) (d :: ds)
end
section
variable {K : PySem.W.Frag} {O O' : List Addr} {H H' : Hp}
mutual
theorem Rp.dp : ∀ (d : PyData) (v : V), Rp K O H v d → Dp K H v d
  | .none, _, h => by cases h; exact .non
  | .bool b, _, h => by cases h; exact .bl b
  | .int i, _, h => by cases h; exact .int i
  | .str x, _, h => by cases h; exact .str x
  | .list ds, _, h => by cases h with | lst hs ha => exact .lst (.inl hs.2) (RpAll.dp ds _ ha)
  | .tuple ds, _, h => by cases h with | tup hs ha => exact .tup (.inl hs.2) (RpAll.dp ds _ ha)
  | .dict _, _, h => by cases h
theorem RpAll.dp : ∀ (ds : List PyData) (vs : List V), RpAll K O H vs ds → DpAll K H vs ds
  | [], _, h => by cases h; exact .nil
  | d :: ds, _, h => by cases h with | cons h1 h2 => exact .cons (Rp.dp d _ h1) (RpAll.dp ds _ h2)
end
mutual
theorem Rp.map (hr : ∀ a u, a ∉ O → Rd H a u → a ∉ O' ∧ Rd H' a u) : ∀ (d : PyData) (v : V), Rp K O H v d → Rp K O' H' v d
  | .none, _, h => by cases h; exact .non
  | .bool b, _, h => by cases h; exact .bl b
  | .int i, _, h => by cases h; exact .int i
  | .str x, _, h => by cases h with | str _ h => exact .str x h
  | .list ds, _, h => by cases h with | lst hs ha => exact .lst (hr _ _ hs.1 hs.2) (RpAll.map hr ds _ ha)
  | .tuple ds, _, h => by cases h with | tup hs ha => exact .tup (hr _ _ hs.1 hs.2) (RpAll.map hr ds _ ha)
  | .dict _, _, h => by cases h
theorem RpAll.map (hr : ∀ a u, a ∉ O → Rd H a u → a ∉ O' ∧ Rd H' a u) : ∀ (ds : List PyData) (vs : List V), RpAll K O H vs ds → RpAll K O' H' vs ds
  | [], _, h => by cases h; exact .nil
  | d :: ds, _, h => by cases h with | cons h1 h2 => exact .cons (Rp.map hr d _ h1) (RpAll.map hr ds _ h2)
end
end

/-- all that is not own is as it was -/
def Ge (O : List Addr) (H H' : Hp) : Prop := ∀ a o, a ∉ O → H a = some o → H' a = some o
theorem Ge.of_same {O : List Addr} {H H' : Hp} (h : Same H H') : Ge O H H' := fun a o _ e => h a o e
theorem Same.refl {H : Hp} : Same H H := fun _ _ e => e
theorem Same.tr {H H' H2 : Hp} (h : Same H H') (k : Same H' H2) : Same H H2 := fun a o e => k a o (h a o e)
theorem same_upd {H : Hp} {p : Addr} {o : HO} (h : H p = none) : Same H (upd H p o) := fun a u e => by rw [upd_ne (ne_of_none e h)]; exact e
theorem Rd.same {H H' : Hp} {a : Addr} {u : HO} (s : Same H H') (h : Rd H a u) : Rd H' a u := h.imp (s a _) fun ⟨o, e⟩ => ⟨o, s a _ e⟩
theorem SqL.same {K : PySem.W.Frag} {H H' : Hp} {a : Addr} {xs : List V} (s : Same H H') (h : SqL K H a xs) : SqL K H' a xs := h.imp (Rd.same s) id
theorem SqT.same {K : PySem.W.Frag} {H H' : Hp} {a : Addr} {xs : List V} (s : Same H H') (h : SqT K H a xs) : SqT K H' a xs := h.imp (Rd.same s) id
section
variable {K : PySem.W.Frag} {O O' : List Addr} {H H' : Hp} {v : V} {d : PyData} {vs : List V} {ds : List PyData} {p : Addr}
theorem ge_rd (g : Ge O H H') : ∀ a u, a ∉ O → Rd H a u → a ∉ O ∧ Rd H' a u := fun a _ ho r => ⟨ho, r.imp (g a _ ho) fun ⟨o, e⟩ => ⟨o, g a _ ho e⟩⟩
theorem Rp.ge (g : Ge O H H') (h : Rp K O H v d) : Rp K O H' v d := Rp.map (ge_rd g) d v h
theorem RpAll.ge (g : Ge O H H') (h : RpAll K O H vs ds) : RpAll K O H' vs ds := RpAll.map (ge_rd g) ds vs h
theorem Rp.same (g : Same H H') (h : Rp K O H v d) : Rp K O H' v d := h.ge (Ge.of_same g)
theorem RpAll.same (g : Same H H') (h : RpAll K O H vs ds) : RpAll K O H' vs ds := h.ge (Ge.of_same g)
theorem Rp.sub (g : ∀ a ∈ O', a ∈ O) (h : Rp K O H v d) : Rp K O' H v d := Rp.map (fun a u ho r => ⟨fun z => ho (g a z), r⟩) d v h
theorem RpAll.sub (g : ∀ a ∈ O', a ∈ O) (h : RpAll K O H vs ds) : RpAll K O' H vs ds := RpAll.map (fun a u ho r => ⟨fun z => ho (g a z), r⟩) ds vs h
theorem Rd.ne {a : Addr} {u : HO} (r : Rd H a u) (hp : H p = none) : a ≠ p := by
  rcases r with e | ⟨_, e⟩
  · exact ne_of_none e hp
  · exact ne_of_none e hp
theorem fresh_rd (hp : H p = none) : ∀ a u, a ∉ O → Rd H a u → a ∉ p :: O ∧ Rd H a u := fun a u ho r => ⟨fun z => (List.mem_cons.mp z).elim (fun e => MV.Rd.ne r hp e) ho, r⟩
theorem Rp.fresh (hp : H p = none) (h : Rp K O H v d) : Rp K (p :: O) H v d := Rp.map (fresh_rd hp) d v h
theorem RpAll.fresh (hp : H p = none) (h : RpAll K O H vs ds) : RpAll K (p :: O) H vs ds := RpAll.map (fresh_rd hp) ds vs h
theorem RpAll.length : ∀ {vs : List V} {ds : List PyData}, RpAll K O H vs ds → vs.length = ds.length
  | _, [], h => by cases h; rfl
  | _, d :: ds, h => by cases h with | cons h1 h2 => simp [RpAll.length h2]
theorem RpAll.get : ∀ {vs : List V} {ds : List PyData} {i : Nat} {d : PyData}, RpAll K O H vs ds → ds[i]? = some d → ∃ v, vs[i]? = some v ∧ Rp K O H v d
  | _, [], _, _, h, e => by simp at e
  | _, d :: ds, 0, _, h, e => by cases h with | cons h1 h2 => simp at e; subst e; exact ⟨_, rfl, h1⟩
  | _, d :: ds, i + 1, _, h, e => by cases h with | cons h1 h2 => simpa using RpAll.get h2 (by simpa using e)
theorem RpAll.get' {vs : List V} {ds : List PyData} {i : Nat} {v : V} (h : RpAll K O H vs ds) (e : vs[i]? = some v) : ∃ d, ds[i]? = some d ∧ Rp K O H v d := by
  have hl := h.length
  obtain ⟨hi, _⟩ := List.getElem?_eq_some_iff.mp e
  have : ds[i]? = some ds[i] := List.getElem?_eq_getElem (by omega)
  obtain ⟨v', e', r⟩ := h.get this
  rw [e] at e'; cases e'
  exact ⟨_, this, r⟩
theorem RpAll.append : ∀ {vs us : List V} {ds es : List PyData}, RpAll K O H vs ds → RpAll K O H us es → RpAll K O H (vs ++ us) (ds ++ es)
  | _, _, [], _, h, k => by cases h; exact k
  | _, _, d :: ds, _, h, k => by cases h with | cons h1 h2 => exact .cons h1 (RpAll.append h2 k)
theorem RpAll.take : ∀ {vs : List V} {ds : List PyData} (n : Nat), RpAll K O H vs ds → RpAll K O H (vs.take n) (ds.take n)
  | _, [], n, h => by cases h; simp; exact .nil
  | _, d :: ds, 0, h => by simp; exact .nil
  | _, d :: ds, n + 1, h => by cases h with | cons h1 h2 => exact .cons h1 (RpAll.take n h2)
theorem RpAll.drop : ∀ {vs : List V} {ds : List PyData} (n : Nat), RpAll K O H vs ds → RpAll K O H (vs.drop n) (ds.drop n)
  | _, [], n, h => by cases h; simp; exact .nil
  | _, d :: ds, 0, h => h
  | _, d :: ds, n + 1, h => by cases h with | cons h1 h2 => exact RpAll.drop n h2
theorem RpAll.one (h : Rp K O H v d) : RpAll K O H [v] [d] := .cons h .nil
theorem RpAll.set : ∀ {vs : List V} {ds : List PyData} (i : Nat), RpAll K O H vs ds → Rp K O H v d → RpAll K O H (vs.set i v) (ds.set i d)
  | _, [], i, h, _ => by cases h; exact .nil
  | _, e :: ds, 0, h, k => by cases h with | cons h1 h2 => exact .cons k h2
  | _, e :: ds, i + 1, h, k => by cases h with | cons h1 h2 => exact .cons h1 (RpAll.set i h2 k)
end

/-! ### what a borrowed thing, an own thing is -/
/-- the root of a borrowed list: it may be own, its items are not -/
def RootAt (K : PySem.W.Frag) (O : List Addr) (Hr H : Hp) (p : Addr) : PyData → Prop
  | .list ds => ∃ xs, Rd Hr p (.lst xs) ∧ RpAll K O H xs ds
  | _ => False
def Rs (K : PySem.W.Frag) (O : List Addr) (Hr H : Hp) (v : V) (d : PyData) : Prop := Rp K O H v d ∨ ∃ p, v = .ref p ∧ RootAt K O Hr H p d
def OwnAt (K : PySem.W.Frag) (O : List Addr) (H : Hp) (p : Addr) : PyData → Prop
  | .list ds => ∃ xs, H p = some (.lst xs) ∧ RpAll K O H xs ds
  | _ => False
section
variable {K : PySem.W.Frag} {O O' : List Addr} {Hr Hr' H H' : Hp} {v : V} {d : PyData} {p : Addr}
theorem RootAt.ge (hr : Same Hr Hr') (g : Ge O H H') (h : RootAt K O Hr H p d) : RootAt K O Hr' H' p d := by
  cases d <;> first | exact h.elim | skip
  obtain ⟨xs, h1, h2⟩ := h
  exact ⟨xs, Rd.same hr h1, h2.ge g⟩
theorem RootAt.sub (g : ∀ a ∈ O', a ∈ O) (h : RootAt K O Hr H p d) : RootAt K O' Hr H p d := by
  cases d <;> first | exact h.elim | skip
  obtain ⟨xs, h1, h2⟩ := h
  exact ⟨xs, h1, h2.sub g⟩
theorem RootAt.fresh {q : Addr} (g : H q = none) (h : RootAt K O Hr H p d) : RootAt K (q :: O) Hr H p d := by
  cases d <;> first | exact h.elim | skip
  obtain ⟨xs, h1, h2⟩ := h
  exact ⟨xs, h1, h2.fresh g⟩
theorem Rs.ge (hr : Same Hr Hr') (g : Ge O H H') (h : Rs K O Hr H v d) : Rs K O Hr' H' v d := h.imp (Rp.ge g) fun ⟨p, e, q⟩ => ⟨p, e, q.ge hr g⟩
theorem Rs.sub (g : ∀ a ∈ O', a ∈ O) (h : Rs K O Hr H v d) : Rs K O' Hr H v d := h.imp (Rp.sub g) fun ⟨p, e, q⟩ => ⟨p, e, q.sub g⟩
theorem Rs.fresh {q : Addr} (g : H q = none) (h : Rs K O Hr H v d) : Rs K (q :: O) Hr H v d := h.imp (Rp.fresh g) fun ⟨p, e, z⟩ => ⟨p, e, z.fresh g⟩
theorem OwnAt.ge (g : Ge O H H') (hp : H' p = H p) (h : OwnAt K O H p d) : OwnAt K O H' p d := by
  cases d <;> first | exact h.elim | skip
  obtain ⟨xs, h1, h2⟩ := h
  exact ⟨xs, hp.trans h1, h2.ge g⟩
theorem OwnAt.sub (g : ∀ a ∈ O', a ∈ O) (h : OwnAt K O H p d) : OwnAt K O' H p d := by
  cases d <;> first | exact h.elim | skip
  obtain ⟨xs, h1, h2⟩ := h
  exact ⟨xs, h1, h2.sub g⟩
theorem OwnAt.fresh {q : Addr} (g : H q = none) (h : OwnAt K O H p d) : OwnAt K (q :: O) H p d := by
  cases d <;> first | exact h.elim | skip
  obtain ⟨xs, h1, h2⟩ := h
  exact ⟨xs, h1, h2.fresh g⟩
theorem OwnAt.root (h : OwnAt K O H p d) : RootAt K O H H p d := by
  cases d <;> first | exact h.elim | skip
  obtain ⟨xs, h1, h2⟩ := h
  exact ⟨xs, .inl h1, h2⟩
theorem OwnAt.some (h : OwnAt K O H p d) : ∃ o, H p = some o := by
  cases d <;> first | exact h.elim | skip
  obtain ⟨xs, h1, h2⟩ := h
  exact ⟨_, h1⟩
/-- an own thing is given up -/
theorem OwnAt.give (h : OwnAt K O H p d) (hs : ∀ a ∈ O', a ∈ O) (hp : p ∉ O') : Rp K O' H (.ref p) d := by
  cases d <;> first | exact h.elim | skip
  obtain ⟨xs, h1, h2⟩ := h
  exact .lst ⟨hp, .inl h1⟩ (h2.sub hs)
end

/-! ### the state -/
structure Stt (K : PySem.W.Frag) (H0 : Hp) (O0 : List Addr) (B Ω : List Nat) (O : List Addr) (H : Hp) (σ : St) (ρ : Env) : Prop where
  keep : Same H0 H
  trk0 : ∀ a ∈ O0, H0 a ≠ none
  sub : ∀ a ∈ O0, a ∈ O
  trk : ∀ a ∈ O, H a ≠ none
  fz : ∀ (i : Nat) (d : D), ρ[i]? = some (some d) → i ∉ Ω → i ∉ B → ∃ v, σ[i]? = some (some v) ∧ Rp K O H v d
  bor : ∀ (i : Nat) (d : D), ρ[i]? = some (some d) → i ∉ Ω → i ∈ B → ∃ v, σ[i]? = some (some v) ∧ Rs K O H0 H v d
  ow : ∀ (i : Nat) (d : D), ρ[i]? = some (some d) → i ∈ Ω → ∃ p, σ[i]? = some (some (V.ref p)) ∧ p ∈ O ∧ H0 p = none ∧ OwnAt K O H p d
  dist : ∀ i ∈ Ω, ∀ j ∈ Ω, i ≠ j → ∀ p d e, ρ[i]? = some (some d) → ρ[j]? = some (some e) → σ[i]? = some (some (V.ref p)) → σ[j]? ≠ some (some (V.ref p))
  len : σ.length = ρ.length
/-- what a step may have done: own things changed, new ones came -/
structure Step (O : List Addr) (H : Hp) (O' : List Addr) (H' : Hp) : Prop where
  ge : Ge O H H'
  new : ∀ a ∈ O', a ∈ O ∨ H a = none
theorem Step.refl {O : List Addr} {H : Hp} : Step O H O H := ⟨fun _ _ _ e => e, fun _ h => .inl h⟩
theorem Step.of_same {O : List Addr} {H H' : Hp} (s : Same H H') : Step O H O H' := ⟨Ge.of_same s, fun _ h => .inl h⟩
theorem Step.tr {O O1 O2 : List Addr} {H H1 H2 : Hp} (a : Step O H O1 H1) (b : Step O1 H1 O2 H2) : Step O H O2 H2 := by
  refine ⟨fun x o hx e => b.ge x o (fun z => ?_) (a.ge x o hx e), fun x hx => ?_⟩
  · rcases a.new x z with q | q
    · exact hx q
    · rw [e] at q; cases q
  · rcases b.new x hx with q | q
    · exact a.new x q
    · by_cases ho : x ∈ O
      · exact .inl ho
      · cases e : H x with
        | none => exact .inr rfl
        | some u => rw [a.ge x u ho e] at q; cases q
section
variable {K : PySem.W.Frag} {H0 : Hp} {O0 : List Addr} {B Ω : List Nat} {O : List Addr} {H H' : Hp} {σ : St} {ρ : Env}
theorem Stt.same (S : Stt K H0 O0 B Ω O H σ ρ) (s : Same H H') : Stt K H0 O0 B Ω O H' σ ρ where
  keep := Same.tr S.keep s
  trk0 := S.trk0
  sub := S.sub
  trk := fun a ha e => by
    cases q : H a with
    | none => exact S.trk a ha q
    | some u => rw [s a u q] at e; cases e
  fz := fun i d e h1 h2 => let ⟨v, e', r⟩ := S.fz i d e h1 h2; ⟨v, e', r.same s⟩
  bor := fun i d e h1 h2 => let ⟨v, e', r⟩ := S.bor i d e h1 h2; ⟨v, e', r.ge Same.refl (Ge.of_same s)⟩
  ow := fun i d e h1 => by
    obtain ⟨p, e', h2, h3, h4⟩ := S.ow i d e h1
    obtain ⟨o, q⟩ := h4.some
    exact ⟨p, e', h2, h3, h4.ge (Ge.of_same s) ((s p o q).trans q.symm)⟩
  dist := S.dist
  len := S.len
/-- a slot takes a value that is no own thing -/
theorem Stt.set {i : Nat} {v : V} {d : D} (S : Stt K H0 O0 B Ω O H σ ρ) (r : Rp K O H v d) (hB : i ∉ B) : Stt K H0 O0 B (Ω.filter (· ≠ i)) O H (σ.set i (some v)) (ρ.set i (some d)) where
  keep := S.keep
  trk0 := S.trk0
  sub := S.sub
  trk := S.trk
  fz := fun j e h1 h2 h3 => by
    by_cases hj : i = j
    · subst hj
      obtain ⟨hl, _⟩ := List.getElem?_eq_some_iff.mp h1
      rw [List.getElem?_set_self (by simpa using hl)] at h1
      cases h1
      exact ⟨v, List.getElem?_set_self (by rw [S.len]; simpa using hl), r⟩
    · rw [List.getElem?_set_ne hj] at h1
      rw [List.getElem?_set_ne hj]
      exact S.fz j e h1 (fun z => h2 (List.mem_filter.mpr ⟨z, by simpa using Ne.symm hj⟩)) h3
  bor := fun j e h1 h2 h3 => by
    have hj : i ≠ j := fun z => hB (z ▸ h3)
    rw [List.getElem?_set_ne hj] at h1
    rw [List.getElem?_set_ne hj]
    exact S.bor j e h1 (fun z => h2 (List.mem_filter.mpr ⟨z, by simpa using Ne.symm hj⟩)) h3
  ow := fun j e h1 h2 => by
    obtain ⟨h2, h3⟩ := List.mem_filter.mp h2
    have hj : i ≠ j := by simpa using (Ne.symm (by simpa using h3 : j ≠ i))
    rw [List.getElem?_set_ne hj] at h1
    rw [List.getElem?_set_ne hj]
    exact S.ow j e h1 h2
  dist := fun j hj k hk hne p d e h1 h2 h3 => by
    obtain ⟨hj, h4⟩ := List.mem_filter.mp hj
    obtain ⟨hk, h5⟩ := List.mem_filter.mp hk
    have a1 : i ≠ j := Ne.symm (by simpa using h4)
    have a2 : i ≠ k := Ne.symm (by simpa using h5)
    rw [List.getElem?_set_ne a1] at h1 h3
    rw [List.getElem?_set_ne a2] at h2
    rw [List.getElem?_set_ne a2]
    exact S.dist j hj k hk hne p d e h1 h2 h3
  len := by simp [S.len]
/-- a slot takes a new own thing -/
theorem Stt.setO {i : Nat} {p : Addr} {d : D} (S : Stt K H0 O0 B Ω O H σ ρ) (s : Same H H') (hp : H p = none) (w : OwnAt K (p :: O) H' p d) (hB : i ∉ B) :
    Stt K H0 O0 B (i :: Ω.filter (· ≠ i)) (p :: O) H' (σ.set i (some (.ref p))) (ρ.set i (some d)) := by
  have S' := S.same s
  have nin : ∀ a ∈ O, a ≠ p := fun a ha e => S.trk a ha (by rw [e]; exact hp)
  have up : ∀ {v : V} {e : D}, Rp K O H v e → Rp K (p :: O) H' v e := fun r => (r.fresh hp).same s
  refine ⟨S'.keep, S.trk0, fun a ha => List.mem_cons_of_mem _ (S.sub a ha), fun a ha => ?_, fun j e h1 h2 h3 => ?_, fun j e h1 h2 h3 => ?_, fun j e h1 h2 => ?_, ?_, by simp [S.len]⟩
  · rcases List.mem_cons.mp ha with rfl | ha
    · obtain ⟨o, q⟩ := w.some; rw [q]; simp
    · exact S'.trk a ha
  · have hj : i ≠ j := fun z => h2 (z ▸ List.mem_cons_self)
    rw [List.getElem?_set_ne hj] at h1
    rw [List.getElem?_set_ne hj]
    obtain ⟨v, q, r⟩ := S.fz j e h1 (fun z => h2 (List.mem_cons_of_mem _ (List.mem_filter.mpr ⟨z, by simpa using Ne.symm hj⟩))) h3
    exact ⟨v, q, up r⟩
  · have hj : i ≠ j := fun z => hB (z ▸ h3)
    rw [List.getElem?_set_ne hj] at h1
    rw [List.getElem?_set_ne hj]
    obtain ⟨v, q, r⟩ := S.bor j e h1 (fun z => h2 (List.mem_cons_of_mem _ (List.mem_filter.mpr ⟨z, by simpa using Ne.symm hj⟩))) h3
    exact ⟨v, q, (r.fresh hp).ge Same.refl (Ge.of_same s)⟩
  · by_cases hj : i = j
    · subst hj
      obtain ⟨hl, _⟩ := List.getElem?_eq_some_iff.mp h1
      rw [List.getElem?_set_self (by simpa using hl)] at h1
      cases h1
      refine ⟨p, List.getElem?_set_self (by rw [S.len]; simpa using hl), List.mem_cons_self, ?_, w⟩
      cases q : H0 p with
      | none => rfl
      | some u => rw [S.keep p u q] at hp; cases hp
    · rw [List.getElem?_set_ne hj] at h1
      rw [List.getElem?_set_ne hj]
      have h2' : j ∈ Ω := by
        rcases List.mem_cons.mp h2 with z | z
        · exact absurd z.symm hj
        · exact (List.mem_filter.mp z).1
      obtain ⟨q, e1, e2, e3, e4⟩ := S.ow j e h1 h2'
      obtain ⟨o, eo⟩ := e4.some
      exact ⟨q, e1, List.mem_cons_of_mem _ e2, e3, (e4.fresh hp).ge (Ge.of_same s) ((s q o eo).trans eo.symm)⟩
  · have own_ne : ∀ j e, i ≠ j → ρ[j]? = some (some e) → j ∈ Ω → σ[j]? ≠ some (some (V.ref p)) := fun j e hj h1 h2 z => by
      obtain ⟨q, e1, e2, _, _⟩ := S.ow j e h1 h2
      rw [z] at e1; cases e1
      exact nin p e2 rfl
    intro j hj k hk hne q d' e' h1 h2 h3
    by_cases a1 : i = j
    · subst a1
      have a2 : i ≠ k := hne
      have hk' : k ∈ Ω := by
        rcases List.mem_cons.mp hk with z | z
        · exact absurd z.symm a2
        · exact (List.mem_filter.mp z).1
      obtain ⟨hl, _⟩ := List.getElem?_eq_some_iff.mp h1
      rw [List.getElem?_set_self (by rw [S.len]; simpa using hl)] at h3
      cases h3
      rw [List.getElem?_set_ne a2] at h2
      rw [List.getElem?_set_ne a2]
      exact own_ne k _ a2 h2 hk'
    · have hj' : j ∈ Ω := by
        rcases List.mem_cons.mp hj with z | z
        · exact absurd z.symm a1
        · exact (List.mem_filter.mp z).1
      rw [List.getElem?_set_ne a1] at h1 h3
      by_cases a2 : i = k
      · subst a2
        obtain ⟨hl, _⟩ := List.getElem?_eq_some_iff.mp h2
        rw [List.getElem?_set_self (by rw [S.len]; simpa using hl)]
        intro z
        cases z
        exact own_ne j _ a1 h1 hj' h3
      · have hk' : k ∈ Ω := by
          rcases List.mem_cons.mp hk with z | z
          · exact absurd z.symm a2
          · exact (List.mem_filter.mp z).1
        rw [List.getElem?_set_ne a2] at h2
        rw [List.getElem?_set_ne a2]
        exact S.dist j hj' k hk' hne q _ _ h1 h2 h3
end
end MV

set_option Elab.async false
set_option linter.all false
set_option maxRecDepth 100000
set_option maxHeartbeats 4000000
namespace MV
open PySem L2

/-! ### more of the state: give up, weaken -/
section
variable {K : PySem.W.Frag} {H0 : Hp} {O0 : List Addr} {B Ω : List Nat} {O : List Addr} {H H' : Hp} {σ : St} {ρ : Env}
/-- an own slot is owned no longer: its thing stays as it is from now on -/
theorem Stt.give (i : Nat) (hB : i ∉ B) (S : Stt K H0 O0 B Ω O H σ ρ) : ∃ O', Step O H O' H ∧ Stt K H0 O0 B (Ω.filter (· ≠ i)) O' H σ ρ := by
  have same : Stt K H0 O0 B Ω O H σ ρ → (∀ d, ρ[i]? = some (some d) → i ∉ Ω) → Stt K H0 O0 B (Ω.filter (· ≠ i)) O H σ ρ := fun S hn => by
    refine ⟨S.keep, S.trk0, S.sub, S.trk, fun j d h1 h2 h3 => S.fz j d h1 (fun z => ?_) h3, fun j d h1 h2 h3 => S.bor j d h1 (fun z => ?_) h3, fun j d h1 h2 => S.ow j d h1 (List.mem_filter.mp h2).1, fun j hj k hk => S.dist j (List.mem_filter.mp hj).1 k (List.mem_filter.mp hk).1, S.len⟩
    · by_cases hj : j = i
      · subst hj; exact hn d h1 z
      · exact h2 (List.mem_filter.mpr ⟨z, by simpa using hj⟩)
    · by_cases hj : j = i
      · subst hj; exact hn d h1 z
      · exact h2 (List.mem_filter.mpr ⟨z, by simpa using hj⟩)
  by_cases hi : i ∈ Ω
  · by_cases hd : ∃ d, ρ[i]? = some (some d)
    · obtain ⟨d, hd⟩ := hd
      obtain ⟨p, e1, e2, e3, e4⟩ := S.ow i d hd hi
      have sb : ∀ a ∈ O.filter (· ≠ p), a ∈ O := fun a ha => (List.mem_filter.mp ha).1
      have np : p ∉ O.filter (· ≠ p) := fun z => by simpa using (List.mem_filter.mp z).2
      refine ⟨O.filter (· ≠ p), ⟨fun _ _ _ e => e, fun a ha => .inl (sb a ha)⟩, S.keep, S.trk0, fun a ha => List.mem_filter.mpr ⟨S.sub a ha, ?_⟩, fun a ha => S.trk a (sb a ha), fun j e h1 h2 h3 => ?_, fun j e h1 h2 h3 => ?_, fun j e h1 h2 => ?_, fun j hj k hk => S.dist j (List.mem_filter.mp hj).1 k (List.mem_filter.mp hk).1, S.len⟩
      · simp only [ne_eq, decide_not, Bool.not_eq_eq_eq_not, Bool.not_true, decide_eq_false_iff_not]
        rintro rfl
        exact S.trk0 _ ha e3
      · by_cases hj : j = i
        · subst hj
          rw [hd] at h1; cases h1
          exact ⟨_, e1, e4.give sb np⟩
        · obtain ⟨v, q, r⟩ := S.fz j e h1 (fun z => h2 (List.mem_filter.mpr ⟨z, by simpa using hj⟩)) h3
          exact ⟨v, q, r.sub sb⟩
      · have hj : j ≠ i := fun z => hB (z ▸ h3)
        obtain ⟨v, q, r⟩ := S.bor j e h1 (fun z => h2 (List.mem_filter.mpr ⟨z, by simpa using hj⟩)) h3
        exact ⟨v, q, r.sub sb⟩
      · obtain ⟨h2, hne⟩ := List.mem_filter.mp h2
        have hne : j ≠ i := by simpa using hne
        obtain ⟨q, f1, f2, f3, f4⟩ := S.ow j e h1 h2
        refine ⟨q, f1, List.mem_filter.mpr ⟨f2, ?_⟩, f3, f4.sub sb⟩
        have : q ≠ p := fun z => by subst z; exact S.dist j h2 i hi hne q _ _ h1 hd f1 e1
        simpa using this
    · exact ⟨O, Step.refl, same S fun d e _ => hd ⟨d, e⟩⟩
  · exact ⟨O, Step.refl, same S fun _ _ => hi⟩
/-- every own slot is given up -/
theorem Stt.giveAll (hB : ∀ i ∈ Ω, i ∉ B) (S : Stt K H0 O0 B Ω O H σ ρ) : ∃ O', Step O H O' H ∧ Stt K H0 O0 B [] O' H σ ρ := by
  have gen : ∀ (n : Nat) (Ω : List Nat) (O : List Addr), Ω.length ≤ n → (∀ i ∈ Ω, i ∉ B) → Stt K H0 O0 B Ω O H σ ρ → ∃ O', Step O H O' H ∧ Stt K H0 O0 B [] O' H σ ρ := by
    intro n
    induction n with
    | zero =>
      intro Ω O hl _ S
      cases Ω with
      | nil => exact ⟨O, Step.refl, S⟩
      | cons _ _ => simp at hl
    | succ n ih =>
      intro Ω O hl hB S
      cases Ω with
      | nil => exact ⟨O, Step.refl, S⟩
      | cons i r =>
        obtain ⟨O1, s1, S1⟩ := S.give i (hB i List.mem_cons_self)
        have e : (i :: r).filter (· ≠ i) = r.filter (· ≠ i) := by simp
        rw [e] at S1
        obtain ⟨O2, s2, S2⟩ := ih (r.filter (· ≠ i)) O1 (Nat.le_trans (List.length_filter_le _ _) (by simpa using hl)) (fun j hj => hB j (List.mem_cons_of_mem _ (List.mem_filter.mp hj).1)) S1
        exact ⟨O2, s1.tr s2, S2⟩
  exact gen Ω.length Ω O (Nat.le_refl _) hB S
end

/-! ### what is wanted of a result -/
section
variable {α β γ δ : Type}
def Good (mg : Str → Option Value) (W : WX) (σ : St) (Rel : Hp → β → α → Prop) (H : Hp) (r : R α) (Q : β → Hp → Prop) : Prop :=
  match r with
  | .ok d => ∀ v H', Same H H' → Rel H' v d → Q v H'
  | .exc n => ∀ C H', mg n = some (Value.ref C) → Same H H' → W (.ref C) none σ H'
  | .stuck => False
variable {mg : Str → Option Value} {W : WX} {σ : St} {Rel : Hp → β → α → Prop} {Rel2 : Hp → δ → γ → Prop} {H H' : Hp} {r : R α} {Q : β → Hp → Prop} {Q2 : δ → Hp → Prop}
theorem Good.mono (s : Same H H') (h : Good mg W σ Rel H r Q) : Good mg W σ Rel H' r Q := by
  cases r with
  | ok d => exact fun v H2 s2 q => h v H2 (Same.tr s s2) q
  | exc n => exact fun C H2 m s2 => h C H2 m (Same.tr s s2)
  | stuck => exact h
theorem Good.bind {f : α → R γ} (h : Good mg W σ Rel2 H (r.bind f) Q2) (k : ∀ d v H1, r = .ok d → Same H H1 → Rel H1 v d → Good mg W σ Rel2 H1 (f d) Q2 → Q v H1) : Good mg W σ Rel H r Q := by
  cases r with
  | ok d => exact fun v H1 s rp => k d v H1 rfl s rp (Good.mono s h)
  | exc n => exact h
  | stuck => exact h
theorem Good.use {d : α} {v : β} (h : Good mg W σ Rel H (.ok d) Q) (rp : Rel H v d) : Q v H := h v H Same.refl rp
end

/-! ### judgements -/
/-- where one stands -/
structure Gd (X : Cx) (W : WX) (k : Nat) : Prop where
  tk : Takes X W
  hp : PassesOwn (model X.prog X.w) X.A X.env X.xe
  hc : X.calm = true
  nd : X.N.Nodup
  hr : Room k X.A
theorem Gd.hu {X : Cx} {W : WX} {k : Nat} (g : Gd X W k) : X.A.units + 1 < cLine := hu_of g.hr
theorem Gd.u64 {X : Cx} {W : WX} {k : Nat} (g : Gd X W k) : X.A.units + 64 < cLine := g.hr.units
theorem Gd.u65 {X : Cx} {W : WX} {k : Nat} (g : Gd X W k) : X.A.units + 65 < cLine := by have := g.hr.un; omega
def W0 : WX := fun _ _ _ _ => False
theorem Gd.blk {X : Cx} {W : WX} {k : Nat} (g : Gd X W k) (s : Shared) (H : Hp) (scope : Scope) (cenv : PySem.Env) (fp : List Addr) : Gd (X.blk s H scope cenv fp) W0 k where
  tk := fun u s' ⟨a, B, sI, pins, σ, H, cls, d, e, I, nb, up, sky, na, os, ag, w⟩ => w
  hp := PassesOwn.never
  hc := g.hc
  nd := g.nd
  hr := g.hr

section
variable (K : PySem.W.Frag) (mg : Str → Option Value) (W : WX) (B Ω : List Nat)
/-- an expression: frozen data -/
def tX (g : Env → R D) : TE := fun σ H Q => ∃ H0 O0 O ρ, Stt K H0 O0 B Ω O H σ ρ ∧ Good mg W σ (Rp K O) H (g ρ) Q
/-- .. borrowed -/
def tB (g : Env → R D) : TE := fun σ H Q => ∃ H0 O0 O ρ, Stt K H0 O0 B Ω O H σ ρ ∧ Good mg W σ (fun H' => Rs K O H' H') H (g ρ) Q
/-- .. a new own thing -/
def RelO (O : List Addr) (H : Hp) (H' : Hp) (v : V) (d : D) : Prop := ∃ p, v = .ref p ∧ H p = none ∧ OwnAt K (p :: O) H' p d
def tO (g : Env → R D) : TE := fun σ H Q => ∃ H0 O0 O ρ, Stt K H0 O0 B Ω O H σ ρ ∧ Good mg W σ (RelO K O H) H (g ρ) Q
def tT (g : Env → R Bool) : TT := fun σ H Q => ∃ H0 O0 O ρ, Stt K H0 O0 B Ω O H σ ρ ∧ Good mg W σ (fun _ (b c : Bool) => b = c) H (g ρ) Q
def RelA (O : List Addr) (H : Hp) : List V → List (Bool × D) → Prop
  | [], [] => True
  | v :: vs, (b, d) :: ds => (if b = true then Rs K O H H v d else Rp K O H v d) ∧ RelA O H vs ds
  | _, _ => False
def tA (g : Env → R (List (Bool × D))) : TA := fun σ H Q => ∃ H0 O0 O ρ, Stt K H0 O0 B Ω O H σ ρ ∧ Good mg W σ (RelA K O) H (g ρ) Q
end
def PX (X : Cx) (W : WX) (B Ω : List Nat) (e : Expr) (g : Env → R D) : Prop := PE X e (tX X.K X.mg W B Ω g)
def PB (X : Cx) (W : WX) (B Ω : List Nat) (e : Expr) (g : Env → R D) : Prop := PE X e (tB X.K X.mg W B Ω g)
def PO (X : Cx) (W : WX) (B Ω : List Nat) (e : Expr) (g : Env → R D) : Prop := PE X e (tO X.K X.mg W B Ω g)
def PTx (X : Cx) (W : WX) (B Ω : List Nat) (e : Expr) (g : Env → R Bool) : Prop := PT X e (tT X.K X.mg W B Ω g)
def PWx (X : Cx) (W : WX) (B Ω : List Nat) (e : Expr) (g : Env → R Bool) : Prop := PW X e (tT X.K X.mg W B Ω g)
def PAx (X : Cx) (W : WX) (B Ω : List Nat) (es : List Expr) (g : Env → R (List (Bool × D))) : Prop := PA X es (tA X.K X.mg W B Ω g)

theorem PE.imp {X : Cx} {e : Expr} {t t' : TE} (h : PE X e t) (w : ∀ σ H Q, t' σ H Q → t σ H Q) : PE X e t' := ⟨fun pins s σ H Q I q => h.run pins s σ H Q I (w σ H Q q)⟩
theorem PT.imp {X : Cx} {e : Expr} {t t' : TT} (h : PT X e t) (w : ∀ σ H Q, t' σ H Q → t σ H Q) : PT X e t' := ⟨fun pins s σ H Q I q => h.run pins s σ H Q I (w σ H Q q)⟩
theorem PW.imp {X : Cx} {e : Expr} {t t' : TT} (h : PW X e t) (w : ∀ σ H Q, t' σ H Q → t σ H Q) : PW X e t' := ⟨fun wh pins s σ H Q I q => h.run wh pins s σ H Q I (w σ H Q q)⟩
theorem PA.imp {X : Cx} {es : List Expr} {t t' : TA} (h : PA X es t) (w : ∀ σ H Q, t' σ H Q → t σ H Q) : PA X es t' := ⟨fun pos pins s σ H Q I q => h.run pos pins s σ H Q I (w σ H Q q)⟩
theorem PS.imp {X : Cx} {st : Stmt} {t t' : TS} (h : PS X st t) (w : ∀ D σ H, t' D σ H → t D σ H) : PS X st t' := ⟨fun pins s σ H D I q => h.run pins s σ H D I (w D σ H q)⟩
theorem PSs.imp {X : Cx} {st : List Stmt} {t t' : TS} (h : PSs X st t) (w : ∀ D σ H, t' D σ H → t D σ H) : PSs X st t' := ⟨fun pins s σ H D I q => h.run pins s σ H D I (w D σ H q)⟩

section
variable {X : Cx} {W : WX} {B Ω : List Nat} {k : Nat}
/-! ### names, constants -/
def xVar (i : Nat) : Env → R D := fun ρ => match ρ[i]? with
  | some (some d) => .ok d
  | _ => .stuck
def xC (d : D) : Env → R D := fun _ => .ok d
theorem px_int {i : Int} {j pos} : PX X W B Ω (.Constant (.int i) j pos) (xC (.int i)) := PE.imp pe_int fun _ _ _ ⟨_, _, _, _, _, h⟩ => h.use (.int i)
theorem px_bl {b : Bool} {j pos} : PX X W B Ω (.Constant (.bool b) j pos) (xC (.bool b)) := PE.imp pe_bl fun _ _ _ ⟨_, _, _, _, _, h⟩ => h.use (.bl b)
theorem px_non {j pos} : PX X W B Ω (.Constant .none j pos) (xC .none) := PE.imp pe_non fun _ _ _ ⟨_, _, _, _, _, h⟩ => h.use .non
theorem px_str {x : Str} {j pos} (hs : PyData.strOk x = true := by decide +kernel) : PX X W B Ω (.Constant (.str x) j pos) (xC (.str x)) := PE.imp pe_str fun _ _ _ ⟨_, _, _, _, _, h⟩ => h.use (.str x hs)
theorem px_var {i : Nat} {x : Str} {pos : Pos} (hN : X.N[i]? = some x) (hv : Vis X.env.scope x) (ho : Ω.contains i = false) (hb : B.contains i = false) (hd : (x == ("__debug__" : Str)) = false := by decide) (hcd : (x == ("__classdict__" : Str)) = false := by decide) :
    PX X W B Ω (.Name x pos) (xVar i) := PE.imp (pe_var hN hv hd hcd) fun σ H Q ⟨H0, O0, O, ρ, S, h⟩ => by
  have ho : i ∉ Ω := by simpa using ho
  have hb : i ∉ B := by simpa using hb
  unfold xVar at h
  cases e : ρ[i]? with
  | none => rw [e] at h; exact h.elim
  | some o =>
    cases o with
    | none => rw [e] at h; exact h.elim
    | some d =>
      rw [e] at h
      obtain ⟨v, q, r⟩ := S.fz i d e ho hb
      exact ⟨v, q, h.use r⟩
theorem pb_var {i : Nat} {x : Str} {pos : Pos} (hN : X.N[i]? = some x) (hv : Vis X.env.scope x) (hd : (x == ("__debug__" : Str)) = false := by decide) (hcd : (x == ("__classdict__" : Str)) = false := by decide) :
    PB X W B Ω (.Name x pos) (xVar i) := PE.imp (pe_var hN hv hd hcd) fun σ H Q ⟨H0, O0, O, ρ, S, h⟩ => by
  unfold xVar at h
  cases e : ρ[i]? with
  | none => rw [e] at h; exact h.elim
  | some o =>
    cases o with
    | none => rw [e] at h; exact h.elim
    | some d =>
      rw [e] at h
      by_cases ho : i ∈ Ω
      · obtain ⟨p, q, r1, r2, r3⟩ := S.ow i d e ho
        exact ⟨_, q, h.use (.inr ⟨p, rfl, r3.root⟩)⟩
      · by_cases hb : i ∈ B
        · obtain ⟨v, q, r⟩ := S.bor i d e ho hb
          exact ⟨v, q, h.use (r.ge S.keep (Ge.of_same Same.refl))⟩
        · obtain ⟨v, q, r⟩ := S.fz i d e ho hb
          exact ⟨v, q, h.use (.inl r)⟩
/-- frozen data may be borrowed -/
theorem PX.b {e : Expr} {g : Env → R D} (h : PX X W B Ω e g) : PB X W B Ω e g := PE.imp h fun σ H Q ⟨H0, O0, O, ρ, S, h⟩ => by
  refine ⟨H0, O0, O, ρ, S, ?_⟩
  cases q : g ρ with
  | ok d => rw [q] at h; exact fun v H' s r => h v H' s (.inl r)
  | exc n => rw [q] at h; exact h
  | stuck => rw [q] at h; exact h
theorem OwnAt.rp {K : PySem.W.Frag} {O : List Addr} {H' : Hp} {p : Addr} {d : D} (w : OwnAt K (p :: O) H' p d) (ho : p ∉ O) : Rp K O H' (.ref p) d := w.give (fun _ h => List.mem_cons_of_mem _ h) ho
/-- a new own thing may be given up at once -/
theorem PO.x {e : Expr} {g : Env → R D} (h : PO X W B Ω e g) : PX X W B Ω e g := PE.imp h fun σ H Q ⟨H0, O0, O, ρ, S, h⟩ => by
  refine ⟨H0, O0, O, ρ, S, ?_⟩
  cases q : g ρ with
  | ok d =>
    rw [q] at h
    rintro v H' s ⟨p, rfl, hp, w⟩
    exact h _ H' s (w.rp fun z => S.trk p z hp)
  | exc n => rw [q] at h; exact h
  | stuck => rw [q] at h; exact h

/-! ### operators -/
def x2 (f : D → D → R D) (ga gb : Env → R D) : Env → R D := fun ρ => (ga ρ).bind fun x => (gb ρ).bind fun y => f x y
def x1 (f : D → R D) (ga : Env → R D) : Env → R D := fun ρ => (ga ρ).bind f
/-- an operator's rule over data: the operands borrowed, the result frozen -/
def RB (X : Cx) (r : R2) (f : D → D → R D) : Prop := ∀ (O : List Addr) (H : Hp) (x y : V) (dx dy d : D) (Q : VK), (∀ a ∈ O, H a ≠ none) → Rs X.K O H H x dx → Rs X.K O H H y dy → f dx dy = .ok d → (∀ v H', Same H H' → Rp X.K O H' v d → Q v H') → r x y H Q
/-- .. frozen operands -/
def RX (X : Cx) (r : R2) (f : D → D → R D) : Prop := ∀ (O : List Addr) (H : Hp) (x y : V) (dx dy d : D) (Q : VK), (∀ a ∈ O, H a ≠ none) → Rp X.K O H x dx → Rp X.K O H y dy → f dx dy = .ok d → (∀ v H', Same H H' → Rp X.K O H' v d → Q v H') → r x y H Q
/-- it never raises -/
def NoX (f : D → D → R D) : Prop := ∀ x y n, f x y ≠ .exc n
section
variable {mg : Str → Option Value} {σ : St} {H : Hp} {O : List Addr} {K : PySem.W.Frag} {Q : VK} {d : R D}
theorem Good.ok_of {Rel : Hp → V → D → Prop} (h : Good mg W σ Rel H d Q) (hn : ∀ n, d ≠ .exc n) : ∃ z, d = .ok z := by
  cases d with
  | ok z => exact ⟨z, rfl⟩
  | exc n => exact absurd rfl (hn n)
  | stuck => exact h.elim
end
variable {a b : Expr} {ga gb : Env → R D} {r : R2} {f : D → D → R D} {pos : Pos} {op : Operator} {cop : CmpOp}
theorem pb_bin {P : V → V → Hp → VK → Prop} (hn : NoX f) (hr : RB X P f) {σ : St} {H : Hp} {Q : VK} (h : tX X.K X.mg W B Ω (x2 f ga gb) σ H Q) :
    tB X.K X.mg W B Ω ga σ H fun x H1 => tB X.K X.mg W B Ω gb σ H1 fun y H2 => P x y H2 Q := by
  obtain ⟨H0, O0, O, ρ, S, h⟩ := h
  refine ⟨H0, O0, O, ρ, S, Good.bind (f := fun x => (gb ρ).bind fun y => f x y) h fun x v H1 e1 s1 r1 h1 => ⟨H0, O0, O, ρ, S.same s1, Good.bind (f := fun y => f x y) h1 fun y u H2 e2 s2 r2 h2 => ?_⟩⟩
  obtain ⟨z, e⟩ := h2.ok_of (hn x y)
  rw [e] at h2
  exact hr O H2 v u x y z Q ((S.same s1).same s2).trk (r1.ge s2 (Ge.of_same s2)) r2 e h2
theorem px_bin {P : V → V → Hp → VK → Prop} (hn : NoX f) (hr : RX X P f) {σ : St} {H : Hp} {Q : VK} (h : tX X.K X.mg W B Ω (x2 f ga gb) σ H Q) :
    tX X.K X.mg W B Ω ga σ H fun x H1 => tX X.K X.mg W B Ω gb σ H1 fun y H2 => P x y H2 Q := by
  obtain ⟨H0, O0, O, ρ, S, h⟩ := h
  refine ⟨H0, O0, O, ρ, S, Good.bind (f := fun x => (gb ρ).bind fun y => f x y) h fun x v H1 e1 s1 r1 h1 => ⟨H0, O0, O, ρ, S.same s1, Good.bind (f := fun y => f x y) h1 fun y u H2 e2 s2 r2 h2 => ?_⟩⟩
  obtain ⟨z, e⟩ := h2.ok_of (hn x y)
  rw [e] at h2
  exact hr O H2 v u x y z Q ((S.same s1).same s2).trk (r1.same s2) r2 e h2
theorem px_op (ho : OpR X (binaryOp op) r) (hn : NoX f) (hr : RB X r f) (ha : PB X W B Ω a ga) (hb : PB X W B Ω b gb) : PX X W B Ω (.BinOp a op b pos) (x2 f ga gb) :=
  PE.imp (pe_op ho ha hb) fun σ H Q h => pb_bin hn hr h
theorem px_cmp (ho : OpR X (compareOp cop) r) (hm : behindInMarks cop b = false) (hn : NoX f) (hr : RB X r f) (ha : PB X W B Ω a ga) (hb : PB X W B Ω b gb) : PX X W B Ω (.Compare a [cop] [b] pos) (x2 f ga gb) :=
  PE.imp (pe_cmpR ho ha hb hm) fun σ H Q h => pb_bin hn hr h
theorem OpR.or {F : Value → Value → Sem Value} {r1 r2 : R2} (h1 : OpR X F r1) (h2 : OpR X F r2) : OpR X F (fun x y H Q => r1 x y H Q ∨ r2 x y H Q) := by
  intro pins s σ H x y v u Q I rx ry h
  rcases h with h | h
  · exact h1 pins s σ H x y v u Q I rx ry h
  · exact h2 pins s σ H x y v u Q I rx ry h
end
end MV

set_option Elab.async false
set_option linter.all false
set_option maxRecDepth 100000
set_option maxHeartbeats 4000000
namespace MV
open PySem L2

/-! ### what stands behind data -/
section
variable {K : PySem.W.Frag} {O : List Addr} {H H' : Hp} {v : V}
theorem Rs.non (h : Rs K O H H' v .none) : v = .non := by
  rcases h with h | ⟨p, rfl, h⟩
  · cases h; rfl
  · exact h.elim
theorem Rs.bool {b : Bool} (h : Rs K O H H' v (.bool b)) : v = .bl b := by
  rcases h with h | ⟨p, rfl, h⟩
  · cases h; rfl
  · exact h.elim
theorem Rs.int {i : Int} (h : Rs K O H H' v (.int i)) : v = .int i := by
  rcases h with h | ⟨p, rfl, h⟩
  · cases h; rfl
  · exact h.elim
theorem Rs.str {x : Str} (h : Rs K O H H' v (.str x)) : v = .str x ∧ PyData.strOk x = true := by
  rcases h with h | ⟨p, rfl, h⟩
  · cases h with | str _ h => exact ⟨rfl, h⟩
  · exact h.elim
theorem Rs.lst {ds : List D} (h : Rs K O H H v (.list ds)) : ∃ p xs, v = .ref p ∧ Rd H p (.lst xs) ∧ RpAll K O H xs ds := by
  rcases h with h | ⟨p, rfl, h⟩
  · cases h with | lst hs ha => exact ⟨_, _, rfl, hs.2, ha⟩
  · obtain ⟨xs, h1, h2⟩ := h
    exact ⟨p, xs, rfl, h1, h2⟩
theorem Rs.tup {ds : List D} (h : Rs K O H H' v (.tuple ds)) : ∃ p xs, v = .ref p ∧ (p ∉ O ∧ Rd H' p (.tup xs)) ∧ RpAll K O H' xs ds := by
  rcases h with h | ⟨p, rfl, h⟩
  · cases h with | tup hs ha => exact ⟨_, _, rfl, hs, ha⟩
  · exact h.elim
theorem Rs.dict {ds : List (D × D)} (h : Rs K O H H' v (.dict ds)) : False := by
  rcases h with h | ⟨p, rfl, h⟩
  · cases h
  · exact h.elim
theorem Rs.dp {d : D} (h : Rs K O H H v d) : Dp K H v d := by
  rcases h with h | ⟨p, rfl, h⟩
  · exact Rp.dp d v h
  · cases d <;> first | exact h.elim | skip
    obtain ⟨xs, h1, h2⟩ := h
    exact .lst (.inl h1) (RpAll.dp _ _ h2)
theorem Rp.atom_int (i : Int) : Rp K O H (.int i) (.int i) := .int i
theorem sqT_of {p : Addr} {xs : List V} (h : p ∉ O ∧ Rd H p (.tup xs)) : SqT K H p xs := .inl h.2
end
theorem rd_upd {H : Hp} {p : Addr} {o : HO} : Rd (upd H p o) p o := .inl upd_same
section
variable {K : PySem.W.Frag} {O : List Addr} {H : Hp} {p : Addr} {xs : List V} {ds : List D}
theorem new_tup (ht : ∀ a ∈ O, H a ≠ none) (hp : H p = none) (h : RpAll K O H xs ds) : Rp K O (upd H p (.tup xs)) (.ref p) (.tuple ds) :=
  .tup ⟨fun z => ht p z hp, rd_upd⟩ (h.same (same_upd hp))
theorem new_lst (ht : ∀ a ∈ O, H a ≠ none) (hp : H p = none) (h : RpAll K O H xs ds) : Rp K O (upd H p (.lst xs)) (.ref p) (.list ds) :=
  .lst ⟨fun z => ht p z hp, rd_upd⟩ (h.same (same_upd hp))
theorem new_own (hp : H p = none) (h : RpAll K O H xs ds) : OwnAt K (p :: O) (upd H p (.lst xs)) p (.list ds) :=
  ⟨xs, upd_same, (h.fresh hp).same (same_upd hp)⟩
end
theorem strOk_app {x y : Str} (hx : PyData.strOk x = true) (hy : PyData.strOk y = true) : PyData.strOk (x ++ y) = true := by
  have e : (x ++ y).cps = x.cps ++ y.cps := rfl
  unfold PyData.strOk at *
  rw [e]
  simp only [Array.all_append, hx, hy, Bool.and_self]

/-! ### shapes -/
def shp : Nat → D → Bool
  | _, .none => true
  | _, .bool _ => true
  | _, .int _ => true
  | _, .str _ => true
  | _, .dict _ => false
  | 0, .list _ => false
  | 0, .tuple _ => false
  | n + 1, .list ds => ds.all (shp n)
  | n + 1, .tuple ds => ds.all (shp n)
theorem depthAll_le {n : Nat} : ∀ {ds : List D}, (∀ d ∈ ds, d.depth ≤ n) → PyData.depthAll ds ≤ n
  | [], _ => by simp [PyData.depthAll]
  | d :: ds, h => by
    have h1 := h d List.mem_cons_self
    have h2 := depthAll_le (ds := ds) fun e he => h e (List.mem_cons_of_mem _ he)
    simp only [PyData.depthAll]
    omega
theorem shp_depth : ∀ (n : Nat) (d : D), shp n d = true → d.depth ≤ n
  | _, .none, _ => by simp [PyData.depth]
  | _, .bool _, _ => by simp [PyData.depth]
  | _, .int _, _ => by simp [PyData.depth]
  | _, .str _, _ => by simp [PyData.depth]
  | n, .dict _, h => by cases n <;> simp [shp] at h
  | 0, .list _, h => by simp [shp] at h
  | 0, .tuple _, h => by simp [shp] at h
  | n + 1, .list ds, h => by
    simp only [shp, List.all_eq_true] at h
    have := depthAll_le (ds := ds) fun e he => shp_depth n e (h e he)
    simp only [PyData.depth]; omega
  | n + 1, .tuple ds, h => by
    simp only [shp, List.all_eq_true] at h
    have := depthAll_le (ds := ds) fun e he => shp_depth n e (h e he)
    simp only [PyData.depth]; omega
section
variable {K : PySem.W.Frag} {O : List Addr} {H : Hp}
mutual
theorem Rp.lay : ∀ (d : D) (v : V), Rp K O H v d → d.canLay0 = true
  | .none, _, _ => by simp [PyData.canLay0]
  | .bool b, _, _ => by simp [PyData.canLay0]
  | .int i, _, _ => by simp [PyData.canLay0]
  | .str x, _, h => by cases h with | str _ h => simpa [PyData.canLay0] using h
  | .list ds, _, h => by cases h with | lst hs ha => simpa [PyData.canLay0] using RpAll.lay ds _ ha
  | .tuple ds, _, h => by cases h with | tup hs ha => simpa [PyData.canLay0] using RpAll.lay ds _ ha
  | .dict _, _, h => by cases h
theorem RpAll.lay : ∀ (ds : List D) (vs : List V), RpAll K O H vs ds → PyData.canLayAll0 ds = true
  | [], _, _ => by simp [PyData.canLayAll0]
  | d :: ds, _, h => by cases h with | cons h1 h2 => simp [PyData.canLayAll0, Rp.lay d _ h1, RpAll.lay ds _ h2]
end
theorem Rs.lay {v : V} {d : D} (h : Rs K O H H v d) : d.canLay0 = true := by
  rcases h with h | ⟨p, rfl, h⟩
  · exact Rp.lay d v h
  · cases d <;> first | exact h.elim | skip
    obtain ⟨xs, h1, h2⟩ := h
    simpa [PyData.canLay0] using RpAll.lay _ _ h2
theorem shaped_of {v : V} {d : D} (h : Rs K O H H v d) (hs : shp 16 d = true) : SeqAt.shaped d = true := by
  have h1 := shp_depth 16 d hs
  show (d.canLay0 && decide (d.depth ≤ 64)) = true
  rw [h.lay, Bool.true_and]
  exact decide_eq_true (by omega)
end

/-! ### the operators over data -/
def okIf (c : Bool) (d : D) : R D := if c = true then .ok d else .stuck
theorem okIf_ok {c : Bool} {d e : D} (h : okIf c d = .ok e) : c = true ∧ d = e := by
  unfold okIf at h
  split at h
  · injection h with h; exact ⟨by assumption, h⟩
  · cases h
@[simp] theorem okIf_exc {c : Bool} {d : D} {n : Str} : (okIf c d = .exc n) = False := by
  unfold okIf; split <;> simp
def addD : D → D → R D
  | .int i, .int j => .ok (.int (i + j))
  | .str x, .str y => okIf (decide (x.length + y.length ≤ sizeLine)) (.str (x ++ y))
  | .list xs, .list ys => okIf (decide (xs.length + ys.length ≤ sizeLine)) (.list (xs ++ ys))
  | .tuple xs, .tuple ys => okIf (decide (xs.length + ys.length ≤ sizeLine)) (.tuple (xs ++ ys))
  | _, _ => .stuck
def subD : D → D → R D
  | .int i, .int j => .ok (.int (i - j))
  | _, _ => .stuck
def mulOk (i j : Int) : Bool := (decide (-(2 ^ 64) < i) && decide (i < 2 ^ 64)) || (decide (-(2 ^ 64) < j) && decide (j < 2 ^ 64)) || decide (i.natAbs.log2 + j.natAbs.log2 < 1000000)
def mulD : D → D → R D
  | .int i, .int j => okIf (mulOk i j) (.int (i * j))
  | _, _ => .stuck
def fdivD : D → D → R D
  | .int i, .int j => okIf ((decide (j ≠ 0) && decide (j.natAbs < 1073741824)) || (decide (0 < j) && decide (j.natAbs.log2 < 9000))) (.int (i.fdiv j))
  | _, _ => .stuck
def modD : D → D → R D
  | .int i, .int j => okIf (decide (j ≠ 0)) (.int (i.fmod j))
  | _, _ => .stuck
def powD : D → D → R D
  | .int i, .int j => okIf (decide (0 ≤ j) && decide (j ≤ 1000000) && decide (i.natAbs < 2 ^ 64)) (.int (i ^ j.toNat))
  | _, _ => .stuck
def eqD (d e : D) : R D := okIf (shp 16 d && shp 16 e) (.bool (PyData.eqv d e))
def neD (d e : D) : R D := okIf (shp 16 d && shp 16 e) (.bool (!PyData.eqv d e))
def ltD : D → D → R D
  | .int i, .int j => .ok (.bool (decide (i < j)))
  | .str x, .str y => .ok (.bool (decide (x.cps.toList < y.cps.toList)))
  | _, _ => .stuck
def leD : D → D → R D
  | .int i, .int j => .ok (.bool (decide (i ≤ j)))
  | _, _ => .stuck
def gtD : D → D → R D
  | .int i, .int j => .ok (.bool (decide (j < i)))
  | _, _ => .stuck
def geD : D → D → R D
  | .int i, .int j => .ok (.bool (decide (j ≤ i)))
  | _, _ => .stuck
def isD : D → D → R D
  | .none, .none => .ok (.bool true)
  | _, .none => .ok (.bool false)
  | .bool a, .bool b => .ok (.bool (decide (a = b)))
  | _, _ => .stuck
def isNotD : D → D → R D
  | .none, .none => .ok (.bool false)
  | _, .none => .ok (.bool true)
  | .bool a, .bool b => .ok (.bool (!decide (a = b)))
  | _, _ => .stuck
def inStr (x z : Str) : Bool := match x.cps.toList with
  | [c] => decide (c ∈ z.cps.toList)
  | _ => !(Builtin.Str.occurrences z x 0 z.length 1).isEmpty
def inD : D → D → R D
  | .str x, .str z => .ok (.bool (inStr x z))
  | d, .list ds => okIf (shp 16 d && shp 16 (.list ds)) (.bool (ds.any fun z => PyData.eqv z d))
  | _, _ => .stuck
def notInD : D → D → R D
  | .str x, .str z => .ok (.bool (!inStr x z))
  | d, .list ds => okIf (shp 16 d && shp 16 (.list ds)) (.bool (!ds.any fun z => PyData.eqv z d))
  | _, _ => .stuck
theorem nox_add : NoX addD := by intro x y n; cases x <;> cases y <;> simp [addD]
theorem nox_sub : NoX subD := by intro x y n; cases x <;> cases y <;> simp [subD]
theorem nox_mul : NoX mulD := by intro x y n; cases x <;> cases y <;> simp [mulD]
theorem nox_fdiv : NoX fdivD := by intro x y n; cases x <;> cases y <;> simp [fdivD]
theorem nox_mod : NoX modD := by intro x y n; cases x <;> cases y <;> simp [modD]
theorem nox_pow : NoX powD := by intro x y n; cases x <;> cases y <;> simp [powD]
theorem nox_eq : NoX eqD := by intro x y n; simp [eqD]
theorem nox_ne : NoX neD := by intro x y n; simp [neD]
theorem nox_lt : NoX ltD := by intro x y n; cases x <;> cases y <;> simp [ltD]
theorem nox_le : NoX leD := by intro x y n; cases x <;> cases y <;> simp [leD]
theorem nox_gt : NoX gtD := by intro x y n; cases x <;> cases y <;> simp [gtD]
theorem nox_ge : NoX geD := by intro x y n; cases x <;> cases y <;> simp [geD]
theorem nox_is : NoX isD := by intro x y n; cases x <;> cases y <;> simp [isD]
theorem nox_isNot : NoX isNotD := by intro x y n; cases x <;> cases y <;> simp [isNotD]
theorem nox_in : NoX inD := by intro x y n; cases x <;> cases y <;> simp [inD]
theorem nox_notIn : NoX notInD := by intro x y n; cases x <;> cases y <;> simp [notInD]

section
variable {X : Cx} {W : WX} {B Ω : List Nat} {k : Nat}
/-- list + list, whatever list it is -/
def rCatR : R2 := fun x y H Q => ∃ l b xs zs, x = .ref l ∧ y = .ref b ∧ Rd H l (.lst xs) ∧ Rd H b (.lst zs) ∧ xs.length + zs.length ≤ sizeLine ∧ ∀ p, H p = none → Q (.ref p) (upd H p (.lst (xs ++ zs)))
theorem op_catR : OpR X (binaryOp .Add) rCatR := by
  intro pins s σ H x y v u Q I rx ry h
  obtain ⟨l, b, xs, zs, rfl, rfl, hH, hB, hz, q⟩ := h
  cases rx
  cases ry
  obtain ⟨z, its, n, r, e⟩ := hH.ok I.hok
  obtain ⟨z2, its2, n2, r2, e2⟩ := hB.ok I.hok
  have hl := r.length
  have hl2 := r2.length
  refine PySem.P.add_list e e2 ?_ (by rw [List.size_toArray, List.size_toArray]; omega)
  have ea : its.toArray ++ its2.toArray = (its ++ its2).toArray := by simp
  rw [ea]
  exact ⟨.ref _, _, I.lnew (t' := s.toks) (r.append r2) (by rw [List.length_append]; omega), rfl, q _ I.fresh⟩
def rAdd (K : PySem.W.Frag) : R2 := fun x y H Q => (rI0 fun i j => .int (i + j)) x y H Q ∨ (∃ i j, x = .str i ∧ y = .str j ∧ i.length + j.length ≤ sizeLine ∧ Q (.str (i ++ j)) H) ∨ rCatR x y H Q ∨ rCatA K x y H Q
theorem or_add : OpR X (binaryOp .Add) (rAdd X.K) := OpR.or op_add (OpR.or op_add_str (OpR.or op_catR op_catA))
theorem rb_add : RB X (rAdd X.K) addD := by
  intro O H x y dx dy d Q ht hx hy e q
  cases dx <;> cases dy <;> simp only [addD] at e <;> try cases e
  · obtain rfl := hx.int; obtain rfl := hy.int
    exact .inl ⟨_, _, rfl, rfl, q _ H Same.refl (.int _)⟩
  · obtain ⟨rfl, h1⟩ := hx.str; obtain ⟨rfl, h2⟩ := hy.str
    obtain ⟨c, rfl⟩ := okIf_ok e
    exact .inr (.inl ⟨_, _, rfl, rfl, of_decide_eq_true c, q _ H Same.refl (.str _ (strOk_app h1 h2))⟩)
  · obtain ⟨p, xs, rfl, h1, h2⟩ := hx.lst
    obtain ⟨p', xs', rfl, h3, h4⟩ := hy.lst
    obtain ⟨c, rfl⟩ := okIf_ok e
    have c := of_decide_eq_true c
    rw [← h2.length, ← h4.length] at c
    exact .inr (.inr (.inl ⟨_, _, _, _, rfl, rfl, h1, h3, c, fun r hr => q _ _ (same_upd hr) (new_lst ht hr (h2.append h4))⟩))
  · obtain ⟨p, xs, rfl, h1, h2⟩ := hx.tup
    obtain ⟨p', xs', rfl, h3, h4⟩ := hy.tup
    obtain ⟨c, rfl⟩ := okIf_ok e
    have c := of_decide_eq_true c
    rw [← h2.length, ← h4.length] at c
    refine .inr (.inr (.inr ⟨_, _, _, _, rfl, rfl, sqT_of h1, sqT_of h3, c, fun z => q _ H Same.refl ?_, fun _ z => q _ H Same.refl ?_, fun _ _ r hr => q _ _ (same_upd hr) (new_tup ht hr (h2.append h4))⟩))
    · subst z
      cases h2
      exact .tup h3 h4
    · subst z
      cases h4
      rw [List.append_nil]
      exact .tup h1 h2
theorem rb_sub : RB X (rI0 fun i j => .int (i - j)) subD := by
  intro O H x y dx dy d Q ht hx hy e q
  cases dx <;> cases dy <;> simp only [subD] at e <;> try cases e
  obtain rfl := hx.int; obtain rfl := hy.int
  exact ⟨_, _, rfl, rfl, q _ H Same.refl (.int _)⟩
def rMulA : R2 := fun x y H Q => rI CMul (fun i j => .int (i * j)) x y H Q ∨ rI CMulW (fun i j => .int (i * j)) x y H Q
theorem or_mul : OpR X (binaryOp .Mult) rMulA := OpR.or op_mul op_mulW
theorem rb_mul : RB X rMulA mulD := by
  intro O H x y dx dy d Q ht hx hy e q
  cases dx <;> cases dy <;> simp only [mulD] at e <;> try cases e
  obtain rfl := hx.int; obtain rfl := hy.int
  obtain ⟨c, rfl⟩ := okIf_ok e
  simp only [mulOk, Bool.or_eq_true, Bool.and_eq_true, decide_eq_true_eq] at c
  rcases c with (c | c) | c
  · exact .inl ⟨_, _, rfl, rfl, .inl c, q _ H Same.refl (.int _)⟩
  · exact .inl ⟨_, _, rfl, rfl, .inr c, q _ H Same.refl (.int _)⟩
  · exact .inr ⟨_, _, rfl, rfl, c, q _ H Same.refl (.int _)⟩
def rFdivA : R2 := fun x y H Q => rI CDivN (fun i j => .int (i.fdiv j)) x y H Q ∨ rI CDivW (fun i j => .int (i / j)) x y H Q
theorem or_fdiv : OpR X (binaryOp .FloorDiv) rFdivA := OpR.or op_fdivN op_fdivW
theorem rb_fdiv : RB X rFdivA fdivD := by
  intro O H x y dx dy d Q ht hx hy e q
  cases dx <;> cases dy <;> simp only [fdivD] at e <;> try cases e
  obtain rfl := hx.int; obtain rfl := hy.int
  obtain ⟨c, rfl⟩ := okIf_ok e
  simp only [Bool.or_eq_true, Bool.and_eq_true, decide_eq_true_eq] at c
  rcases c with c | c
  · exact .inl ⟨_, _, rfl, rfl, c, q _ H Same.refl (.int _)⟩
  · refine .inr ⟨_, _, rfl, rfl, c, q _ H Same.refl ?_⟩
    rw [Int.fdiv_eq_ediv_of_nonneg _ (by omega)]
    exact .int _
theorem rb_mod : RB X (rI (fun _ j => j ≠ 0) fun i j => .int (i.fmod j)) modD := by
  intro O H x y dx dy d Q ht hx hy e q
  cases dx <;> cases dy <;> simp only [modD] at e <;> try cases e
  obtain rfl := hx.int; obtain rfl := hy.int
  obtain ⟨c, rfl⟩ := okIf_ok e
  exact ⟨_, _, rfl, rfl, of_decide_eq_true c, q _ H Same.refl (.int _)⟩
theorem rb_pow : RB X (rI CPow fun i j => .int (i ^ j.toNat)) powD := by
  intro O H x y dx dy d Q ht hx hy e q
  cases dx <;> cases dy <;> simp only [powD] at e <;> try cases e
  obtain rfl := hx.int; obtain rfl := hy.int
  obtain ⟨c, rfl⟩ := okIf_ok e
  simp only [Bool.and_eq_true, decide_eq_true_eq] at c
  exact ⟨_, _, rfl, rfl, ⟨c.1.1, c.1.2, c.2⟩, q _ H Same.refl (.int _)⟩
theorem rb_eq : RB X (rEqD X.K) eqD := by
  intro O H x y dx dy d Q ht hx hy e q
  obtain ⟨c, rfl⟩ := okIf_ok e
  simp only [Bool.and_eq_true] at c
  exact ⟨_, _, hx.dp, hy.dp, shaped_of hx c.1, shaped_of hy c.2, q _ H Same.refl (.bl _)⟩
theorem rb_ne : RB X (rNeD X.K) neD := by
  intro O H x y dx dy d Q ht hx hy e q
  obtain ⟨c, rfl⟩ := okIf_ok e
  simp only [Bool.and_eq_true] at c
  exact ⟨_, _, hx.dp, hy.dp, shaped_of hx c.1, shaped_of hy c.2, q _ H Same.refl (.bl _)⟩
def rLtA : R2 := fun x y H Q => (rI0 fun i j => .bl (decide (i < j))) x y H Q ∨ (∃ i j, x = .str i ∧ y = .str j ∧ Q (.bl (decide (i.cps.toList < j.cps.toList))) H)
theorem or_lt : OpR X (compareOp .Lt) rLtA := OpR.or op_lt op_lt_str
theorem rb_lt : RB X rLtA ltD := by
  intro O H x y dx dy d Q ht hx hy e q
  cases dx <;> cases dy <;> simp only [ltD] at e <;> try cases e
  · obtain rfl := hx.int; obtain rfl := hy.int
    exact .inl ⟨_, _, rfl, rfl, q _ H Same.refl (.bl _)⟩
  · obtain ⟨rfl, h1⟩ := hx.str; obtain ⟨rfl, h2⟩ := hy.str
    exact .inr ⟨_, _, rfl, rfl, q _ H Same.refl (.bl _)⟩
theorem rb_le : RB X (rI0 fun i j => .bl (decide (i ≤ j))) leD := by
  intro O H x y dx dy d Q ht hx hy e q
  cases dx <;> cases dy <;> simp only [leD] at e <;> try cases e
  obtain rfl := hx.int; obtain rfl := hy.int
  exact ⟨_, _, rfl, rfl, q _ H Same.refl (.bl _)⟩
theorem rb_gt : RB X (rI0 fun i j => .bl (decide (j < i))) gtD := by
  intro O H x y dx dy d Q ht hx hy e q
  cases dx <;> cases dy <;> simp only [gtD] at e <;> try cases e
  obtain rfl := hx.int; obtain rfl := hy.int
  exact ⟨_, _, rfl, rfl, q _ H Same.refl (.bl _)⟩
theorem rb_ge : RB X (rI0 fun i j => .bl (decide (j ≤ i))) geD := by
  intro O H x y dx dy d Q ht hx hy e q
  cases dx <;> cases dy <;> simp only [geD] at e <;> try cases e
  obtain rfl := hx.int; obtain rfl := hy.int
  exact ⟨_, _, rfl, rfl, q _ H Same.refl (.bl _)⟩
def rIsA : R2 := fun x y H Q => (y = .non ∧ Q (.bl (decide (x = .non))) H) ∨ (∃ a b, x = .bl a ∧ y = .bl b ∧ Q (.bl (decide (a = b))) H)
theorem or_is : OpR X (compareOp .Is) rIsA := OpR.or op_isN op_is_bl
theorem rs_non {K : PySem.W.Frag} {O : List Addr} {H : Hp} {v : V} {d : D} (h : Rs K O H H v d) : decide (v = .non) = (match d with | .none => true | _ => false) := by
  cases d with
  | none => obtain rfl := h.non; rfl
  | bool b => obtain rfl := h.bool; rfl
  | int i => obtain rfl := h.int; rfl
  | str x => obtain ⟨rfl, _⟩ := h.str; rfl
  | list ds => obtain ⟨_, _, rfl, _⟩ := h.lst; rfl
  | tuple ds => obtain ⟨_, _, rfl, _⟩ := h.tup; rfl
  | dict ds => exact h.dict.elim
theorem rb_is : RB X rIsA isD := by
  intro O H x y dx dy d Q ht hx hy e q
  have hn := rs_non hx
  cases dy <;> (try (cases dx <;> simp only [isD] at e <;> cases e; done))
  · obtain rfl := hy.non
    refine .inl ⟨rfl, ?_⟩
    rw [hn]
    cases dx <;> simp only [isD] at e <;> (injection e with e; subst e; exact q _ H Same.refl (.bl _))
  · obtain rfl := hy.bool
    cases dx <;> simp only [isD] at e <;> try cases e
    obtain rfl := hx.bool
    exact .inr ⟨_, _, rfl, rfl, q _ H Same.refl (.bl _)⟩
def rNotA : R2 := fun x y H Q => (y = .non ∧ Q (.bl (!decide (x = .non))) H) ∨ (∃ a b, x = .bl a ∧ y = .bl b ∧ Q (.bl (!decide (a = b))) H)
theorem or_isNot : OpR X (compareOp .IsNot) rNotA := OpR.or op_notN op_isnot_bl
theorem rb_isNot : RB X rNotA isNotD := by
  intro O H x y dx dy d Q ht hx hy e q
  have hn := rs_non hx
  cases dy <;> (try (cases dx <;> simp only [isNotD] at e <;> cases e; done))
  · obtain rfl := hy.non
    refine .inl ⟨rfl, ?_⟩
    rw [hn]
    cases dx <;> simp only [isNotD] at e <;> (injection e with e; subst e; exact q _ H Same.refl (.bl _))
  · obtain rfl := hy.bool
    cases dx <;> simp only [isNotD] at e <;> try cases e
    obtain rfl := hx.bool
    exact .inr ⟨_, _, rfl, rfl, q _ H Same.refl (.bl _)⟩
def rInA (K : PySem.W.Frag) (f : Bool → Bool) : R2 := fun x y H Q => (∃ (c : Nat) (z : Str), x = .str ⟨#[c]⟩ ∧ y = .str z ∧ Q (.bl (f (decide (c ∈ z.cps.toList)))) H) ∨
  (∃ i j, x = .str i ∧ y = .str j ∧ Q (.bl (f (!(Builtin.Str.occurrences j i 0 j.length 1).isEmpty))) H) ∨
  (∃ d ds, Dp K H x d ∧ Dp K H y (.list ds) ∧ SeqAt.shaped d = true ∧ SeqAt.shaped (.list ds) = true ∧ Q (.bl (f (ds.any fun z => PyData.eqv z d))) H)
theorem or_in (g : Gd X W k) : OpR X (compareOp .In) (rInA X.K fun b => b) := OpR.or op_in_sign (OpR.or op_in_str (op_inD g.u65))
theorem or_notIn (g : Gd X W k) : OpR X (compareOp .NotIn) (rInA X.K fun b => !b) := OpR.or op_notIn_sign (OpR.or op_notin_str (op_notInD g.u65))
theorem in_str {K : PySem.W.Frag} {f : Bool → Bool} {H : Hp} {Q : VK} {x z : Str} (q : Q (.bl (f (inStr x z))) H) : rInA K f (.str x) (.str z) H Q := by
  unfold inStr at q
  split at q
  · rename_i c e
    refine .inl ⟨c, z, ?_, rfl, q⟩
    obtain ⟨a⟩ := x
    congr 1
    congr 1
    exact Array.ext' (by simpa using e)
  · exact .inr (.inl ⟨_, _, rfl, rfl, q⟩)
theorem rb_in : RB X (rInA X.K fun b => b) inD := by
  intro O H x y dx dy d Q ht hx hy e q
  cases dy <;> (try (cases dx <;> simp only [inD] at e <;> cases e; done))
  · obtain ⟨rfl, h1⟩ := hy.str
    cases dx <;> simp only [inD] at e <;> try cases e
    obtain ⟨rfl, h2⟩ := hx.str
    exact in_str (f := fun b => b) (q _ H Same.refl (.bl _))
  · rename_i ds
    have e : okIf (shp 16 dx && shp 16 (.list ds)) (.bool (ds.any fun z => PyData.eqv z dx)) = .ok d := by cases dx <;> exact e
    obtain ⟨c, rfl⟩ := okIf_ok e
    simp only [Bool.and_eq_true] at c
    exact .inr (.inr ⟨_, _, hx.dp, hy.dp, shaped_of hx c.1, shaped_of hy c.2, q _ H Same.refl (.bl _)⟩)
theorem rb_notIn : RB X (rInA X.K fun b => !b) notInD := by
  intro O H x y dx dy d Q ht hx hy e q
  cases dy <;> (try (cases dx <;> simp only [notInD] at e <;> cases e; done))
  · obtain ⟨rfl, h1⟩ := hy.str
    cases dx <;> simp only [notInD] at e <;> try cases e
    obtain ⟨rfl, h2⟩ := hx.str
    exact in_str (f := fun b => !b) (q _ H Same.refl (.bl _))
  · rename_i ds
    have e : okIf (shp 16 dx && shp 16 (.list ds)) (.bool (!ds.any fun z => PyData.eqv z dx)) = .ok d := by cases dx <;> exact e
    obtain ⟨c, rfl⟩ := okIf_ok e
    simp only [Bool.and_eq_true] at c
    exact .inr (.inr ⟨_, _, hx.dp, hy.dp, shaped_of hx c.1, shaped_of hy c.2, q _ H Same.refl (.bl _)⟩)
end
end MV

set_option Elab.async false
set_option linter.all false
set_option maxRecDepth 100000
set_option maxHeartbeats 4000000
namespace MV
open PySem L2

section
variable {X : Cx} {W : WX} {B Ω : List Nat} {k : Nat} {a b c e : Expr} {ga gb gc : Env → R D} {pos : Pos} {cop cop' : CmpOp} {r r' : R2} {f f' : D → D → R D}
/-! ### tests -/
def asB : D → R Bool
  | .bool b => .ok b
  | _ => .stuck
def xT (g : Env → R D) : Env → R Bool := fun ρ => (g ρ).bind asB
theorem tT_of {mg : Str → Option Value} {σ : St} {H : Hp} {K : PySem.W.Frag} {Q : Bool → Hp → Prop} {g : Env → R D} (h : tT K mg W B Ω (xT g) σ H Q) : tX K mg W B Ω g σ H fun x H' => ∃ c, x = .bl c ∧ Q c H' := by
  obtain ⟨H0, O0, O, ρ, S, h⟩ := h
  refine ⟨H0, O0, O, ρ, S, Good.bind (f := asB) h fun d v H1 e s1 r1 h1 => ?_⟩
  cases d <;> first | exact h1.elim | skip
  cases r1
  exact ⟨_, rfl, h1.use rfl⟩
theorem ptx_val (h : PX X W B Ω e ga) (he : ∀ whole, isTrue e X.env whole = (do let v ← whole; standAt e.pos; holding [v] (truthy v)) := by intro _; rfl) : PTx X W B Ω e (xT ga) :=
  PT.imp (pt_val h he) fun σ H Q q => tT_of q
theorem ptx_cmp (ho : OpR X (compareOp cop) r) (hm : behindInMarks cop b = false) (hn : NoX f) (hr : RB X r f) (ha : PB X W B Ω a ga) (hb : PB X W B Ω b gb) : PTx X W B Ω (.Compare a [cop] [b] pos) (xT (x2 f ga gb)) :=
  PT.imp (pt_cmpR ho ha hb hm) fun σ H Q q => pb_bin hn hr (tT_of q)
def x3 (f f' : D → D → R D) (ga gb gc : Env → R D) : Env → R D := fun ρ => (ga ρ).bind fun x => (gb ρ).bind fun y => (f x y).bind fun z => match z with
  | .bool true => (gc ρ).bind fun w => f' y w
  | .bool false => .ok (.bool false)
  | _ => .stuck
theorem px_tri (hn : NoX f) (hr : RB X r f) (hn' : NoX f') (hr' : RB X r' f') {σ : St} {H : Hp} {Q : VK} (h : tX X.K X.mg W B Ω (x3 f f' ga gb gc) σ H Q) :
    tChain r r' (tB X.K X.mg W B Ω ga) (tB X.K X.mg W B Ω gb) (tB X.K X.mg W B Ω gc) σ H Q := by
  obtain ⟨H0, O0, O, ρ, S, h⟩ := h
  refine ⟨H0, O0, O, ρ, S, Good.bind h fun x v H1 e1 s1 r1 h1 => ⟨H0, O0, O, ρ, S.same s1, Good.bind h1 fun y u H2 e2 s2 r2 h2 => ?_⟩⟩
  have r1' := r1.ge s2 (Ge.of_same s2)
  have S2 := (S.same s1).same s2
  cases ez : f x y with
  | stuck => rw [ez] at h2; exact h2.elim
  | exc n => exact absurd ez (hn x y n)
  | ok z =>
    rw [ez] at h2
    refine hr O H2 v u x y z _ S2.trk r1' r2 ez fun w H3 s3 rz => ?_
    cases z <;> first | exact h2.elim | skip
    rename_i bz
    cases rz
    refine ⟨bz, rfl, ?_⟩
    cases bz with
    | false => exact h2 _ H3 s3 (.bl false)
    | true =>
      simp only [if_true]
      refine ⟨H0, O0, O, ρ, S2.same s3, Good.bind (f := fun w => f' y w) (Good.mono s3 h2) fun w' w2 H4 e4 s4 r4 h4 => ?_⟩
      obtain ⟨z, e⟩ := h4.ok_of (hn' y w')
      rw [e] at h4
      exact hr' O H4 u w2 y w' z Q ((S2.same s3).same s4).trk ((r2.ge s3 (Ge.of_same s3)).ge s4 (Ge.of_same s4)) r4 e h4
theorem px_chain (ho : OpR X (compareOp cop) r) (ho' : OpR X (compareOp cop') r') (hn : NoX f) (hr : RB X r f) (hn' : NoX f') (hr' : RB X r' f') (ha : PB X W B Ω a ga) (hb : PB X W B Ω b gb) (hc : PB X W B Ω c gc)
    (hm : lastMarks [cop, cop'] [b, c] = false := by with_unfolding_all rfl) : PX X W B Ω (.Compare a [cop, cop'] [b, c] pos) (x3 f f' ga gb gc) := PE.imp (pe_chain ho ho' ha hb hc hm) fun σ H Q q => px_tri hn hr hn' hr' q
theorem ptx_chain (ho : OpR X (compareOp cop) r) (ho' : OpR X (compareOp cop') r') (hn : NoX f) (hr : RB X r f) (hn' : NoX f') (hr' : RB X r' f') (ha : PB X W B Ω a ga) (hb : PB X W B Ω b gb) (hc : PB X W B Ω c gc)
    (hm : lastMarks [cop, cop'] [b, c] = false := by with_unfolding_all rfl) : PTx X W B Ω (.Compare a [cop, cop'] [b, c] pos) (xT (x3 f f' ga gb gc)) := PT.imp (pt_chain ho ho' ha hb hc hm) fun σ H Q q => px_tri hn hr hn' hr' (tT_of q)
variable {ta tb : Env → R Bool} {rest : List Expr}
def bAnd (ta tb : Env → R Bool) : Env → R Bool := fun ρ => (ta ρ).bind fun c => if c = true then tb ρ else .ok false
def bOr (ta tb : Env → R Bool) : Env → R Bool := fun ρ => (ta ρ).bind fun c => if c = true then .ok true else tb ρ
def bNot (ta : Env → R Bool) : Env → R Bool := fun ρ => (ta ρ).bind fun c => .ok (!c)
theorem pwx_and1 (ha : PTx X W B Ω a ta) : PWx X W B Ω (.BoolOp .And [a] pos) ta := pw_and1 ha
theorem pwx_or1 (ha : PTx X W B Ω a ta) : PWx X W B Ω (.BoolOp .Or [a] pos) ta := pw_or1 ha
theorem pwx_and (ha : PTx X W B Ω a ta) (hb : PWx X W B Ω (.BoolOp .And (b :: rest) pos) tb) : PWx X W B Ω (.BoolOp .And (a :: b :: rest) pos) (bAnd ta tb) :=
  PW.imp (pw_and ha hb) fun σ H Q ⟨H0, O0, O, ρ, S, h⟩ => ⟨H0, O0, O, ρ, S, Good.bind h fun d v H1 e s1 r1 h1 => by
    have r1 : v = d := r1
    subst r1
    cases v with
    | true => exact ⟨H0, O0, O, ρ, S.same s1, h1⟩
    | false => exact h1.use rfl⟩
theorem pwx_or (ha : PTx X W B Ω a ta) (hb : PWx X W B Ω (.BoolOp .Or (b :: rest) pos) tb) : PWx X W B Ω (.BoolOp .Or (a :: b :: rest) pos) (bOr ta tb) :=
  PW.imp (pw_or ha hb) fun σ H Q ⟨H0, O0, O, ρ, S, h⟩ => ⟨H0, O0, O, ρ, S, Good.bind h fun d v H1 e s1 r1 h1 => by
    have r1 : v = d := r1
    subst r1
    cases v with
    | false => exact ⟨H0, O0, O, ρ, S.same s1, h1⟩
    | true => exact h1.use rfl⟩
theorem ptx_not (ha : PTx X W B Ω a ta) : PTx X W B Ω (.UnaryOp .Not a pos) (bNot ta) :=
  PT.imp (pt_not ha) fun σ H Q ⟨H0, O0, O, ρ, S, h⟩ => ⟨H0, O0, O, ρ, S, Good.bind h fun d v H1 e s1 r1 h1 => by
    have r1 : v = d := r1
    subst r1
    exact h1.use rfl⟩
theorem ptx_w (h : PWx X W B Ω a ta) : PTx X W B Ω a ta := PW.pt h
/-! ### and, or, not, if as values -/
def xAnd (ga gb : Env → R D) : Env → R D := fun ρ => (ga ρ).bind fun x => match x with
  | .bool true => gb ρ
  | .bool false => .ok (.bool false)
  | _ => .stuck
def xOr (ga gb : Env → R D) : Env → R D := fun ρ => (ga ρ).bind fun x => match x with
  | .bool true => .ok (.bool true)
  | .bool false => gb ρ
  | _ => .stuck
def notD : D → R D
  | .bool b => .ok (.bool (!b))
  | _ => .stuck
def xIf (ta : Env → R Bool) (ga gb : Env → R D) : Env → R D := fun ρ => (ta ρ).bind fun c => if c = true then ga ρ else gb ρ
theorem px_one {op} (h : PX X W B Ω a ga) : PX X W B Ω (.BoolOp op [a] pos) ga := pe_one h
theorem px_and (ha : PX X W B Ω a ga) (hb : PX X W B Ω (.BoolOp .And (b :: rest) pos) gb) : PX X W B Ω (.BoolOp .And (a :: b :: rest) pos) (xAnd ga gb) :=
  PE.imp (pe_and ha hb) fun σ H Q ⟨H0, O0, O, ρ, S, h⟩ => ⟨H0, O0, O, ρ, S, Good.bind h fun d v H1 e s1 r1 h1 => by
    cases d <;> first | exact h1.elim | skip
    rename_i z
    cases r1
    refine ⟨z, rfl, ?_⟩
    cases z with
    | true => exact ⟨H0, O0, O, ρ, S.same s1, h1⟩
    | false => exact h1.use (.bl _)⟩
theorem px_or (ha : PX X W B Ω a ga) (hb : PX X W B Ω (.BoolOp .Or (b :: rest) pos) gb) : PX X W B Ω (.BoolOp .Or (a :: b :: rest) pos) (xOr ga gb) :=
  PE.imp (pe_or ha hb) fun σ H Q ⟨H0, O0, O, ρ, S, h⟩ => ⟨H0, O0, O, ρ, S, Good.bind h fun d v H1 e s1 r1 h1 => by
    cases d <;> first | exact h1.elim | skip
    rename_i z
    cases r1
    refine ⟨z, rfl, ?_⟩
    cases z with
    | false => exact ⟨H0, O0, O, ρ, S.same s1, h1⟩
    | true => exact h1.use (.bl _)⟩
theorem px_not (ha : PX X W B Ω a ga) : PX X W B Ω (.UnaryOp .Not a pos) (x1 notD ga) :=
  PE.imp (pe_not ha) fun σ H Q ⟨H0, O0, O, ρ, S, h⟩ => ⟨H0, O0, O, ρ, S, Good.bind h fun d v H1 e s1 r1 h1 => by
    cases d <;> first | exact h1.elim | skip
    rename_i z
    cases r1
    exact ⟨z, rfl, h1.use (.bl _)⟩⟩
def negD : D → R D
  | .int i => .ok (.int (-i))
  | _ => .stuck
theorem px_neg (ha : PX X W B Ω a ga) : PX X W B Ω (.UnaryOp .USub a pos) (x1 negD ga) :=
  PE.imp (pe_un un_neg ha) fun σ H Q ⟨H0, O0, O, ρ, S, h⟩ => ⟨H0, O0, O, ρ, S, Good.bind h fun d v H1 e s1 r1 h1 => by
    cases d <;> first | exact h1.elim | skip
    cases r1
    exact ⟨_, rfl, h1.use (.int _)⟩⟩
theorem px_if (hc : PTx X W B Ω c ta) (ha : PX X W B Ω a ga) (hb : PX X W B Ω b gb) : PX X W B Ω (.IfExp c a b pos) (xIf ta ga gb) :=
  PE.imp (pe_ifExp hc ha hb) fun σ H Q ⟨H0, O0, O, ρ, S, h⟩ => ⟨H0, O0, O, ρ, S, Good.bind h fun d v H1 e s1 r1 h1 => by
    have r1 : v = d := r1
    subst r1
    cases v with
    | true => exact ⟨H0, O0, O, ρ, S.same s1, h1⟩
    | false => exact ⟨H0, O0, O, ρ, S.same s1, h1⟩⟩
theorem po_if (hc : PTx X W B Ω c ta) (ha : PO X W B Ω a ga) (hb : PO X W B Ω b gb) : PO X W B Ω (.IfExp c a b pos) (xIf ta ga gb) :=
  PE.imp (pe_ifExp hc ha hb) fun σ H Q ⟨H0, O0, O, ρ, S, h⟩ => ⟨H0, O0, O, ρ, S, Good.bind h fun d v H1 e s1 r1 h1 => by
    have r1 : v = d := r1
    subst r1
    have weak : ∀ {rr : R D}, Good X.mg W σ (RelO X.K O H) H1 rr Q → Good X.mg W σ (RelO X.K O H1) H1 rr Q := fun {rr} g => by
      cases rr with
      | ok d =>
        rintro v H' s ⟨p, rfl, hp, w⟩
        refine g _ H' s ⟨p, rfl, ?_, w⟩
        cases q : H p with
        | none => rfl
        | some u => rw [s1 p u q] at hp; cases hp
      | exc n => exact g
      | stuck => exact g
    cases v with
    | true => exact ⟨H0, O0, O, ρ, S.same s1, weak h1⟩
    | false => exact ⟨H0, O0, O, ρ, S.same s1, weak h1⟩⟩

/-! ### items, slices -/
def ixD : D → D → R D
  | .list ds, .int i => match atI ds i with
    | some d => .ok d
    | none => .stuck
  | .tuple ds, .int i => match atI ds i with
    | some d => .ok d
    | none => .stuck
  | .str z, .int i => if z.length ≤ sizeLine then (match atI z.cps.toList i with
    | some c => .ok (.str ⟨#[c]⟩)
    | none => .stuck) else .stuck
  | _, _ => .stuck
theorem nox_ix : NoX ixD := by intro x y n; cases x <;> cases y <;> simp only [ixD] <;> (try split) <;> (try split) <;> simp
theorem atI_rp {K : PySem.W.Frag} {O : List Addr} {H : Hp} {xs : List V} {ds : List D} {i : Int} {d : D} (h : RpAll K O H xs ds) (e : atI ds i = some d) : ∃ v, atI xs i = some v ∧ Rp K O H v d := by
  unfold atI at *
  rw [h.length]
  cases q : ixN ds.length i with
  | none => rw [q] at e; cases e
  | some j => rw [q] at e; exact h.get e
def rIxA (K : PySem.W.Frag) : R2 := fun x y H Q => rIxL K x y H Q ∨ rIxT K x y H Q ∨ rIxS x y H Q
theorem or_ix : IxR X (rIxA X.K) := IxR.or ix_list (IxR.or ix_tup ix_str)
theorem atI_mem {α : Type} {xs : List α} {i : Int} {v : α} (h : atI xs i = some v) : v ∈ xs := by
  unfold atI at h
  cases e : ixN xs.length i with
  | none => rw [e] at h; cases h
  | some j => rw [e] at h; exact List.mem_of_getElem? h
theorem strOk_iff {z : Str} : PyData.strOk z = true ↔ ∀ c ∈ z.cps.toList, c < 0x110000 := by
  unfold PyData.strOk
  rw [← Array.all_toList, List.all_eq_true]
  simp
theorem strOk_sub {z y : Str} (h : PyData.strOk z = true) (hs : ∀ c ∈ y.cps.toList, c ∈ z.cps.toList) : PyData.strOk y = true := strOk_iff.mpr fun c hc => strOk_iff.mp h c (hs c hc)
theorem rb_ix : RB X (rIxA X.K) ixD := by
  intro O H x y dx dy d Q ht hx hy e q
  cases dx <;> cases dy <;> simp only [ixD] at e <;> try cases e
  · obtain ⟨rfl, h1⟩ := hx.str; obtain rfl := hy.int
    split at e
    · rename_i hz
      split at e
      · rename_i c hc
        cases e
        exact .inr (.inr ⟨_, _, _, rfl, rfl, hz, hc, q _ H Same.refl (.str _ (strOk_sub h1 fun c' h' => (List.mem_singleton.mp (show c' ∈ [c] from h')) ▸ atI_mem hc))⟩)
      · cases e
    · cases e
  · obtain ⟨p, xs, rfl, h1, h2⟩ := hx.lst; obtain rfl := hy.int
    split at e
    · rename_i d' hd
      cases e
      obtain ⟨v, hv, rv⟩ := atI_rp h2 hd
      exact .inl ⟨_, _, _, _, rfl, rfl, .inl h1, hv, q _ H Same.refl rv⟩
    · cases e
  · obtain ⟨p, xs, rfl, h1, h2⟩ := hx.tup; obtain rfl := hy.int
    split at e
    · rename_i d' hd
      cases e
      obtain ⟨v, hv, rv⟩ := atI_rp h2 hd
      exact .inr (.inl ⟨_, _, _, _, rfl, rfl, sqT_of h1, hv, q _ H Same.refl rv⟩)
    · cases e
theorem px_ix (hs : PlainIx b) (ha : PB X W B Ω a ga) (hb : PB X W B Ω b gb) : PX X W B Ω (.Subscript a b pos) (x2 ixD ga gb) :=
  PE.imp (pe_ix or_ix ha hb hs) fun σ H Q h => pb_bin nox_ix rb_ix h
/-- a part of a slice -/
def xNoP : Env → R (Option Int) := fun _ => .ok none
def asI : D → R (Option Int)
  | .int i => .ok (some i)
  | _ => .stuck
def xP (g : Env → R D) : Env → R (Option Int) := fun ρ => (g ρ).bind asI
def tP (K : PySem.W.Frag) (mg : Str → Option Value) (W : WX) (B Ω : List Nat) (g : Env → R (Option Int)) : TO := fun σ H Q => ∃ H0 O0 O ρ, Stt K H0 O0 B Ω O H σ ρ ∧ Good mg W σ (fun _ (b c : Option Int) => b = c) H (g ρ) Q
def PPx (X : Cx) (W : WX) (B Ω : List Nat) (e : Option Expr) (g : Env → R (Option Int)) : Prop := L2.PO X e (tP X.K X.mg W B Ω g)
theorem PO_imp {X : Cx} {e : Option Expr} {t t' : TO} (h : L2.PO X e t) (w : ∀ σ H Q, t' σ H Q → t σ H Q) : L2.PO X e t' := ⟨fun pins s σ H Q I q => h.run pins s σ H Q I (w σ H Q q)⟩
theorem pp_none : PPx X W B Ω none xNoP := PO_imp po_none fun σ H Q ⟨H0, O0, O, ρ, S, h⟩ => h.use rfl
theorem pp_some (h : PX X W B Ω e ga) : PPx X W B Ω (some e) (xP ga) := PO_imp (po_some h) fun σ H Q ⟨H0, O0, O, ρ, S, h⟩ => ⟨H0, O0, O, ρ, S, Good.bind h fun d v H1 e s1 r1 h1 => by
  cases d <;> first | exact h1.elim | skip
  cases r1
  exact ⟨_, rfl, h1.use rfl⟩⟩
def cutD (xs : List D) (lo hi : Option Int) : List D := (xs.drop (HT.sIx xs.length 0 lo)).take (HT.sIx xs.length xs.length hi - HT.sIx xs.length 0 lo)
def slD : D → Option Int → Option Int → R D
  | .list ds, lo, hi => .ok (.list (cutD ds lo hi))
  | .tuple ds, lo, hi => .ok (.tuple (cutD ds lo hi))
  | .str z, lo, hi => okIf (decide (z.length ≤ sizeLine)) (.str (cutS z lo hi))
  | _, _, _ => .stuck
def xSl (ga : Env → R D) (gl gh : Env → R (Option Int)) : Env → R D := fun ρ => (ga ρ).bind fun x => (gl ρ).bind fun l => (gh ρ).bind fun h => slD x l h
theorem cut_rp {K : PySem.W.Frag} {O : List Addr} {H : Hp} {xs : List V} {ds : List D} (lo hi : Option Int) (h : RpAll K O H xs ds) : RpAll K O H (cutV xs lo hi) (cutD ds lo hi) := by
  unfold cutV cutD
  rw [h.length]
  exact (h.drop _).take _
def rSlAll (K : PySem.W.Frag) : V → Option Int → Option Int → Hp → VK → Prop := fun x lo hi H Q => rSlL K x lo hi H Q ∨ rSlA K x lo hi H Q ∨ rSlS x lo hi H Q
theorem or_sl : SlR X (rSlAll X.K) := SlR.or sl_list (SlR.or sl_tupA sl_str)
theorem cutS_mem {z : Str} {lo hi : Option Int} : ∀ c ∈ (cutS z lo hi).cps.toList, c ∈ z.cps.toList := fun c hc => by
  unfold cutS at hc
  simp only [List.toList_toArray] at hc
  exact List.mem_of_mem_drop (List.mem_of_mem_take hc)
variable {el eh : Option Expr} {gl gh : Env → R (Option Int)} {p2 : Pos}
theorem px_slice (ha : PB X W B Ω a ga) (hl : PPx X W B Ω el gl) (hh : PPx X W B Ω eh gh) : PX X W B Ω (.Subscript a (.Slice el eh none p2) pos) (xSl ga gl gh) :=
  PE.imp (pe_slice or_sl ha hl hh) fun σ H Q ⟨H0, O0, O, ρ, S, h⟩ => ⟨H0, O0, O, ρ, S, Good.bind h fun d v H1 e s1 r1 h1 => ⟨H0, O0, O, ρ, S.same s1, Good.bind h1 fun l l' H2 e2 s2 r2 h2 =>
    ⟨H0, O0, O, ρ, (S.same s1).same s2, Good.bind (f := fun z => slD d l z) h2 fun u u' H3 e3 s3 r3 h3 => by
    have r2 : l' = l := r2
    have r3 : u' = u := r3
    subst r2 r3
    have r1 := (r1.ge s2 (Ge.of_same s2)).ge s3 (Ge.of_same s3)
    have S3 := ((S.same s1).same s2).same s3
    cases d <;> first | exact h3.elim | skip
    · obtain ⟨rfl, h1⟩ := r1.str
      obtain ⟨z, ez⟩ := h3.ok_of fun n hn => by simp [slD] at hn
      rw [ez] at h3
      obtain ⟨hz, rfl⟩ := okIf_ok ez
      exact .inr (.inr ⟨_, rfl, of_decide_eq_true hz, h3.use (.str _ (strOk_sub h1 cutS_mem))⟩)
    · obtain ⟨p, xs, rfl, q1, q2⟩ := r1.lst
      exact .inl ⟨p, xs, rfl, .inl q1, fun p' hp' => h3 _ _ (same_upd hp') (new_lst S3.trk hp' (cut_rp _ _ q2))⟩
    · rename_i zs _
      obtain ⟨p, xs, rfl, q1, q2⟩ := r1.tup
      refine .inr (.inl ⟨p, xs, rfl, sqT_of q1, fun hw => h3.use (Rp.tup q1 ?_), fun _ p' hp' => h3 _ _ (same_upd hp') (new_tup S3.trk hp' (cut_rp _ _ q2))⟩)
      have e0 : cutD zs l' u' = zs := by
        unfold cutD
        rw [← q2.length, hw.1, hw.2, List.drop_zero, Nat.sub_zero, q2.length, List.take_length]
      rw [e0]
      exact q2⟩⟩⟩
/-- a slice of a list: a new one -/
def slL : D → Option Int → Option Int → R D
  | .list ds, lo, hi => .ok (.list (cutD ds lo hi))
  | _, _, _ => .stuck
def xSlL (ga : Env → R D) (gl gh : Env → R (Option Int)) : Env → R D := fun ρ => (ga ρ).bind fun x => (gl ρ).bind fun l => (gh ρ).bind fun h => slL x l h
theorem free_back {H H' : Hp} {p : Addr} (s : Same H H') (hp : H' p = none) : H p = none := by
  cases q : H p with
  | none => rfl
  | some u => rw [s p u q] at hp; cases hp
theorem po_slice (ha : PB X W B Ω a ga) (hl : PPx X W B Ω el gl) (hh : PPx X W B Ω eh gh) : PO X W B Ω (.Subscript a (.Slice el eh none p2) pos) (xSlL ga gl gh) :=
  PE.imp (pe_slice sl_list ha hl hh) fun σ H Q ⟨H0, O0, O, ρ, S, h⟩ => ⟨H0, O0, O, ρ, S, Good.bind h fun d v H1 e s1 r1 h1 => ⟨H0, O0, O, ρ, S.same s1, Good.bind h1 fun l l' H2 e2 s2 r2 h2 =>
    ⟨H0, O0, O, ρ, (S.same s1).same s2, Good.bind (f := fun z => slL d l z) h2 fun u u' H3 e3 s3 r3 h3 => by
    have r2 : l' = l := r2
    have r3 : u' = u := r3
    subst r2 r3
    have r1 := (r1.ge s2 (Ge.of_same s2)).ge s3 (Ge.of_same s3)
    cases d <;> first | exact h3.elim | skip
    obtain ⟨p, xs, rfl, q1, q2⟩ := r1.lst
    exact ⟨p, xs, rfl, .inl q1, fun p' hp' => h3 _ _ (same_upd hp') ⟨p', rfl, free_back (Same.tr (Same.tr s1 s2) s3) hp', new_own hp' (cut_rp _ _ q2)⟩⟩⟩⟩⟩

/-! ### displays, arguments -/
def aNil : Env → R (List D) := fun _ => .ok []
def aCons (g : Env → R D) (gs : Env → R (List D)) : Env → R (List D) := fun ρ => (g ρ).bind fun d => (gs ρ).bind fun ds => .ok (d :: ds)
def RpK (K : PySem.W.Frag) (O : List Addr) (H : Hp) : List Bool → List V → List D → Prop
  | [], [], [] => True
  | b :: bs, v :: vs, d :: ds => (if b = true then Rs K O H H v d else Rp K O H v d) ∧ RpK K O H bs vs ds
  | _, _, _ => False
def tAk (K : PySem.W.Frag) (mg : Str → Option Value) (W : WX) (B Ω : List Nat) (ks : List Bool) (g : Env → R (List D)) : TA := fun σ H Q => ∃ H0 O0 O ρ, Stt K H0 O0 B Ω O H σ ρ ∧ Good mg W σ (fun H' => RpK K O H' ks) H (g ρ) Q
def tAf (K : PySem.W.Frag) (mg : Str → Option Value) (W : WX) (B Ω : List Nat) (g : Env → R (List D)) : TA := fun σ H Q => ∃ H0 O0 O ρ, Stt K H0 O0 B Ω O H σ ρ ∧ Good mg W σ (RpAll K O) H (g ρ) Q
def PAk (X : Cx) (W : WX) (B Ω : List Nat) (ks : List Bool) (es : List Expr) (g : Env → R (List D)) : Prop := PA X es (tAk X.K X.mg W B Ω ks g)
def PAf (X : Cx) (W : WX) (B Ω : List Nat) (es : List Expr) (g : Env → R (List D)) : Prop := PA X es (tAf X.K X.mg W B Ω g)
variable {es : List Expr} {gs : Env → R (List D)} {ks : List Bool}
theorem paf_nil : PAf X W B Ω [] aNil := PA.imp pa_nil fun σ H Q ⟨H0, O0, O, ρ, S, h⟩ => h.use .nil
theorem paf_cons (ha : PX X W B Ω a ga) (hr : PAf X W B Ω es gs) (hs : starEach (a :: es) X.env = (false, eval a X.env) :: starEach es X.env := by rfl) : PAf X W B Ω (a :: es) (aCons ga gs) :=
  PA.imp (pa_cons ha hr hs) fun σ H Q ⟨H0, O0, O, ρ, S, h⟩ => ⟨H0, O0, O, ρ, S, Good.bind h fun d v H1 e s1 r1 h1 => ⟨H0, O0, O, ρ, S.same s1, Good.bind (f := fun ds => .ok (d :: ds)) h1 fun ds vs H2 e2 s2 r2 h2 =>
    h2.use (.cons (r1.same s2) r2)⟩⟩
theorem pak_nil : PAk X W B Ω [] [] aNil := PA.imp pa_nil fun σ H Q ⟨H0, O0, O, ρ, S, h⟩ => h.use True.intro
theorem pak_f (ha : PX X W B Ω a ga) (hr : PAk X W B Ω ks es gs) (hs : starEach (a :: es) X.env = (false, eval a X.env) :: starEach es X.env := by rfl) : PAk X W B Ω (false :: ks) (a :: es) (aCons ga gs) :=
  PA.imp (pa_cons ha hr hs) fun σ H Q ⟨H0, O0, O, ρ, S, h⟩ => ⟨H0, O0, O, ρ, S, Good.bind h fun d v H1 e s1 r1 h1 => ⟨H0, O0, O, ρ, S.same s1, Good.bind (f := fun ds => .ok (d :: ds)) h1 fun ds vs H2 e2 s2 r2 h2 =>
    h2.use ⟨by simpa using r1.same s2, r2⟩⟩⟩
theorem pak_b (ha : PB X W B Ω a ga) (hr : PAk X W B Ω ks es gs) (hs : starEach (a :: es) X.env = (false, eval a X.env) :: starEach es X.env := by rfl) : PAk X W B Ω (true :: ks) (a :: es) (aCons ga gs) :=
  PA.imp (pa_cons ha hr hs) fun σ H Q ⟨H0, O0, O, ρ, S, h⟩ => ⟨H0, O0, O, ρ, S, Good.bind h fun d v H1 e s1 r1 h1 => ⟨H0, O0, O, ρ, S.same s1, Good.bind (f := fun ds => .ok (d :: ds)) h1 fun ds vs H2 e2 s2 r2 h2 =>
    h2.use ⟨by simpa using r1.ge s2 (Ge.of_same s2), r2⟩⟩⟩
def mkTup (ds : List D) : R D := if ds.length ≤ sizeLine then .ok (.tuple ds) else .stuck
def mkLst (ds : List D) : R D := if ds.length ≤ sizeLine then .ok (.list ds) else .stuck
def xTup (gs : Env → R (List D)) : Env → R D := fun ρ => (gs ρ).bind mkTup
def xLst (gs : Env → R (List D)) : Env → R D := fun ρ => (gs ρ).bind mkLst
theorem px_tup {x1} (h : PAf X W B Ω es gs) : PX X W B Ω (.Tuple es x1 pos) (xTup gs) :=
  PE.imp (pe_tup h) fun σ H Q ⟨H0, O0, O, ρ, S, h⟩ => ⟨H0, O0, O, ρ, S, Good.bind (f := mkTup) h fun ds vs H1 e s1 r1 h1 => by
    unfold mkTup at h1
    split at h1
    · rename_i hz
      exact ⟨by rw [r1.length]; exact hz, fun p hp => h1 _ _ (same_upd hp) (new_tup (S.same s1).trk hp r1)⟩
    · exact h1.elim⟩
theorem po_lst (h : PAf X W B Ω es gs) : PO X W B Ω (.List es pos) (xLst gs) :=
  PE.imp (pe_lst h) fun σ H Q ⟨H0, O0, O, ρ, S, h⟩ => ⟨H0, O0, O, ρ, S, Good.bind (f := mkLst) h fun ds vs H1 e s1 r1 h1 => by
    unfold mkLst at h1
    split at h1
    · rename_i hz
      exact ⟨by rw [r1.length]; exact hz, fun p hp => h1 _ _ (same_upd hp) ⟨p, rfl, free_back s1 hp, new_own hp r1⟩⟩
    · exact h1.elim⟩
end
end MV

set_option Elab.async false
set_option linter.all false
set_option maxRecDepth 100000
set_option maxHeartbeats 4000000
namespace MV
open PySem L2

section
variable {X : Cx} {W : WX} {B Ω : List Nat} {k : Nat} {a b c e : Expr} {es : List Expr} {ga gb gc : Env → R D} {gs : Env → R (List D)} {ks : List Bool} {pos p : Pos} {nm : Str}
/-! ### built-ins -/
def xCall (f : List D → R D) (gs : Env → R (List D)) : Env → R D := fun ρ => (gs ρ).bind f
def NoXl (f : List D → R D) : Prop := ∀ ds n, f ds ≠ .exc n
def RCB (X : Cx) (r : List V → Hp → VK → Prop) (f : List D → R D) (ks : List Bool) : Prop := ∀ (O : List Addr) (H : Hp) (vs : List V) (ds : List D) (d : D) (Q : VK), (∀ a ∈ O, H a ≠ none) → RpK X.K O H ks vs ds → f ds = .ok d → (∀ v H', Same H H' → Rp X.K O H' v d → Q v H') → r vs H Q
def RCO (X : Cx) (r : List V → Hp → VK → Prop) (f : List D → R D) (ks : List Bool) : Prop := ∀ (O : List Addr) (H : Hp) (vs : List V) (ds : List D) (d : D) (Q : VK), (∀ a ∈ O, H a ≠ none) → RpK X.K O H ks vs ds → f ds = .ok d → (∀ v H', Same H H' → RelO X.K O H H' v d → Q v H') → r vs H Q
theorem rel_back {K : PySem.W.Frag} {O : List Addr} {H H1 H' : Hp} {v : V} {d : D} (s : Same H H1) (h : RelO K O H1 H' v d) : RelO K O H H' v d := let ⟨p, e, hp, w⟩ := h; ⟨p, e, free_back s hp, w⟩
theorem call_x {r : List V → Hp → VK → Prop} {f : List D → R D} (hn : NoXl f) (hr : RCB X r f ks) {σ : St} {H : Hp} {Q : VK} (h : tX X.K X.mg W B Ω (xCall f gs) σ H Q) : tCB r (tAk X.K X.mg W B Ω ks gs) σ H Q := by
  obtain ⟨H0, O0, O, ρ, S, h⟩ := h
  refine ⟨H0, O0, O, ρ, S, Good.bind (f := f) h fun ds vs H1 e s1 r1 h1 => ?_⟩
  cases q : f ds with
  | ok d => rw [q] at h1; exact hr O H1 vs ds d Q (S.same s1).trk r1 q h1
  | exc n => exact absurd q (hn ds n)
  | stuck => rw [q] at h1; exact h1.elim
theorem call_o {r : List V → Hp → VK → Prop} {f : List D → R D} (hn : NoXl f) (hr : RCO X r f ks) {σ : St} {H : Hp} {Q : VK} (h : tO X.K X.mg W B Ω (xCall f gs) σ H Q) : tCB r (tAk X.K X.mg W B Ω ks gs) σ H Q := by
  obtain ⟨H0, O0, O, ρ, S, h⟩ := h
  refine ⟨H0, O0, O, ρ, S, Good.bind (f := f) h fun ds vs H1 e s1 r1 h1 => ?_⟩
  cases q : f ds with
  | ok d => rw [q] at h1; exact hr O H1 vs ds d Q (S.same s1).trk r1 q fun v H' s rr => h1 v H' s (rel_back s1 rr)
  | exc n => exact absurd q (hn ds n)
  | stuck => rw [q] at h1; exact h1.elim
theorem px_bi {id : String} {r : List V → Hp → VK → Prop} {f : List D → R D} (hc : CallR X (.builtin id) r) (hn : NoXl f) (hr : RCB X r f ks) (hg : Gl X nm) (hm : X.mg nm = none) (hv : bootBuiltins nm = some (.builtin id)) (ha : PAk X W B Ω ks (e :: es) gs) (hnn : nm ≠ "__name__" := by decide) (hdb : (nm == ("__debug__" : Str)) = false := by decide)
    (he : starEach (e :: es) X.env = (false, eval e X.env) :: starEach es X.env := by rfl) (hpl : (backTo pos (starEach es X.env)).any (·.1) = false := by rfl) : PX X W B Ω (.Call (.Name nm p) (e :: es) [] pos) (xCall f gs) :=
  PE.imp (pe_callB hc hg hm hv ha hnn hdb he hpl) fun σ H Q h => call_x hn hr h
theorem po_bi {id : String} {r : List V → Hp → VK → Prop} {f : List D → R D} (hc : CallR X (.builtin id) r) (hn : NoXl f) (hr : RCO X r f ks) (hg : Gl X nm) (hm : X.mg nm = none) (hv : bootBuiltins nm = some (.builtin id)) (ha : PAk X W B Ω ks (e :: es) gs) (hnn : nm ≠ "__name__" := by decide) (hdb : (nm == ("__debug__" : Str)) = false := by decide)
    (he : starEach (e :: es) X.env = (false, eval e X.env) :: starEach es X.env := by rfl) (hpl : (backTo pos (starEach es X.env)).any (·.1) = false := by rfl) : PO X W B Ω (.Call (.Name nm p) (e :: es) [] pos) (xCall f gs) :=
  PE.imp (pe_callB hc hg hm hv ha hnn hdb he hpl) fun σ H Q h => call_o hn hr h
theorem px_ty {T : String} {r : List V → Hp → VK → Prop} {f : List D → R D} (hc : CallR X (.type T) r) (hn : NoXl f) (hr : RCB X r f ks) (hg : Gl X nm) (hm : X.mg nm = none) (hv : bootBuiltins nm = some (.type T)) (ha : PAk X W B Ω ks (e :: es) gs) (hnn : nm ≠ "__name__" := by decide) (hdb : (nm == ("__debug__" : Str)) = false := by decide)
    (he : starEach (e :: es) X.env = (false, eval e X.env) :: starEach es X.env := by rfl) (hpl : (backTo pos (starEach es X.env)).any (·.1) = false := by rfl) : PX X W B Ω (.Call (.Name nm p) (e :: es) [] pos) (xCall f gs) :=
  PE.imp (pe_callTy hc hg hm hv ha hnn hdb he hpl) fun σ H Q h => call_x hn hr h
theorem po_ty {T : String} {r : List V → Hp → VK → Prop} {f : List D → R D} (hc : CallR X (.type T) r) (hn : NoXl f) (hr : RCO X r f ks) (hg : Gl X nm) (hm : X.mg nm = none) (hv : bootBuiltins nm = some (.type T)) (ha : PAk X W B Ω ks (e :: es) gs) (hnn : nm ≠ "__name__" := by decide) (hdb : (nm == ("__debug__" : Str)) = false := by decide)
    (he : starEach (e :: es) X.env = (false, eval e X.env) :: starEach es X.env := by rfl) (hpl : (backTo pos (starEach es X.env)).any (·.1) = false := by rfl) : PO X W B Ω (.Call (.Name nm p) (e :: es) [] pos) (xCall f gs) :=
  PE.imp (pe_callTy hc hg hm hv ha hnn hdb he hpl) fun σ H Q h => call_o hn hr h

/-- one borrowed argument -/
theorem rpk1 {K : PySem.W.Frag} {O : List Addr} {H : Hp} {vs : List V} {ds : List D} (h : RpK K O H [true] vs ds) : ∃ v d, vs = [v] ∧ ds = [d] ∧ Rs K O H H v d := by
  match vs, ds, h with
  | [v], [d], h => exact ⟨v, d, rfl, rfl, by simpa using h.1⟩
  | [], [], h => exact h.elim
  | v :: w :: vs, [d], h => exact h.2.elim
  | [v], d :: e :: ds, h => exact h.2.elim
  | v :: w :: vs, d :: e :: ds, h => exact h.2.elim
  | [], d :: ds, h => exact h.elim
  | v :: vs, [], h => exact h.elim
theorem rpk2 {K : PySem.W.Frag} {O : List Addr} {H : Hp} {vs : List V} {ds : List D} (h : RpK K O H [true, true] vs ds) : ∃ v w d e, vs = [v, w] ∧ ds = [d, e] ∧ Rs K O H H v d ∧ Rs K O H H w e := by
  match vs, ds, h with
  | [v, w], [d, e], h => exact ⟨v, w, d, e, rfl, rfl, by simpa using h.1, by simpa using h.2.1⟩
  | [], _, h => exact h.elim
  | [v], [], h => exact h.elim
  | [v], [d], h => exact h.2.elim
  | [v], d :: e :: ds, h => exact h.2.elim
  | v :: w :: vs, [], h => exact h.elim
  | v :: w :: vs, [d], h => exact h.2.elim
  | [v, w], d :: e :: f :: ds, h => exact h.2.2.elim
  | v :: w :: u :: vs, [d, e], h => exact h.2.2.elim
  | v :: w :: u :: vs, d :: e :: f :: ds, h => exact h.2.2.elim
def lenF : List D → R D
  | [.list ds] => .ok (.int ds.length)
  | [.tuple ds] => .ok (.int ds.length)
  | [.str z] => okIf (decide (z.length ≤ sizeLine)) (.int z.length)
  | _ => .stuck
def intsOf : List D → Option (List Int)
  | [] => some []
  | .int i :: ds => (intsOf ds).map (i :: ·)
  | _ :: _ => none
def boolsOf : List D → Option (List Bool)
  | [] => some []
  | .bool i :: ds => (boolsOf ds).map (i :: ·)
  | _ :: _ => none
@[simp] theorem intsOf_map (ns : List Int) : intsOf (ns.map .int) = some ns := by
  induction ns with
  | nil => rfl
  | cons n ns ih => simp [intsOf, ih]
@[simp] theorem boolsOf_map (ns : List Bool) : boolsOf (ns.map .bool) = some ns := by
  induction ns with
  | nil => rfl
  | cons n ns ih => simp [boolsOf, ih]
theorem intsOf_eq : ∀ {ds : List D} {ns : List Int}, intsOf ds = some ns → ds = ns.map .int
  | [], ns, h => by simp [intsOf] at h; subst h; rfl
  | d :: ds, ns, h => by
    cases d <;> simp only [intsOf] at h <;> try cases h
    obtain ⟨ms, e, rfl⟩ := Option.map_eq_some_iff.mp h
    rw [intsOf_eq e]; rfl
theorem boolsOf_eq : ∀ {ds : List D} {ns : List Bool}, boolsOf ds = some ns → ds = ns.map .bool
  | [], ns, h => by simp [boolsOf] at h; subst h; rfl
  | d :: ds, ns, h => by
    cases d <;> simp only [boolsOf] at h <;> try cases h
    obtain ⟨ms, e, rfl⟩ := Option.map_eq_some_iff.mp h
    rw [boolsOf_eq e]; rfl
theorem rp_ints {K : PySem.W.Frag} {O : List Addr} {H : Hp} : ∀ {ns : List Int} {vs : List V}, RpAll K O H vs (ns.map .int) → vs = ns.map .int
  | [], vs, h => by cases h; rfl
  | n :: ns, vs, h => by
    cases h with
    | cons h1 h2 => cases h1; rw [rp_ints h2]; rfl
theorem rp_bools {K : PySem.W.Frag} {O : List Addr} {H : Hp} : ∀ {ns : List Bool} {vs : List V}, RpAll K O H vs (ns.map .bool) → vs = ns.map .bl
  | [], vs, h => by cases h; rfl
  | n :: ns, vs, h => by
    cases h with
    | cons h1 h2 => cases h1; rw [rp_bools h2]; rfl
theorem ints_rp {K : PySem.W.Frag} {O : List Addr} {H : Hp} : ∀ (ns : List Int), RpAll K O H (ns.map .int) (ns.map .int)
  | [] => .nil
  | n :: ns => .cons (.int n) (ints_rp ns)
def sumF : List D → R D
  | [.list ds] => match intsOf ds with
    | some ns => .ok (.int ns.sum)
    | none => .stuck
  | _ => .stuck
def minF : List D → R D
  | [.list ds] => match intsOf ds with
    | some (n :: ns) => .ok (.int (ns.foldl min n))
    | _ => .stuck
  | [.int i, .int j] => .ok (.int (min i j))
  | _ => .stuck
def maxF : List D → R D
  | [.list ds] => match intsOf ds with
    | some (n :: ns) => .ok (.int (ns.foldl max n))
    | _ => .stuck
  | [.int i, .int j] => .ok (.int (max i j))
  | _ => .stuck
def absF : List D → R D
  | [.int i] => .ok (.int (if i < 0 then -i else i))
  | _ => .stuck
def allF : List D → R D
  | [.list ds] => match boolsOf ds with
    | some bs => .ok (.bool (bs.all id))
    | none => .stuck
  | _ => .stuck
def anyF : List D → R D
  | [.list ds] => match boolsOf ds with
    | some bs => .ok (.bool (bs.any id))
    | none => .stuck
  | _ => .stuck
def tupF : List D → R D
  | [.list ds] => .ok (.tuple ds)
  | [.tuple ds] => .ok (.tuple ds)
  | _ => .stuck
def lstF : List D → R D
  | [.list ds] => .ok (.list ds)
  | [.tuple ds] => .ok (.list ds)
  | _ => .stuck
def intF : List D → R D
  | [.int i] => .ok (.int i)
  | [.bool b] => .ok (.int (if b = true then 1 else 0))
  | _ => .stuck
def strF : List D → R D
  | [.int i] => okIf (decide (i.natAbs.log2 < 1920)) (.str (toString i))
  | [.str z] => .ok (.str z)
  | _ => .stuck
def srtI (ns : List Int) : List Int := ns.mergeSort (fun a b => decide (a ≤ b))
def sortedF : List D → R D
  | [.list ds] => match intsOf ds with
    | some ns => .ok (.list ((srtI ns).map .int))
    | none => .stuck
  | _ => .stuck
theorem nox_len : NoXl lenF := by intro ds n; unfold lenF; split <;> simp
theorem nox_sum : NoXl sumF := by intro ds n; unfold sumF; split <;> (try split) <;> simp
theorem nox_min : NoXl minF := by intro ds n; unfold minF; split <;> (try split) <;> simp
theorem nox_max : NoXl maxF := by intro ds n; unfold maxF; split <;> (try split) <;> simp
theorem nox_abs : NoXl absF := by intro ds n; unfold absF; split <;> simp
theorem nox_all : NoXl allF := by intro ds n; unfold allF; split <;> (try split) <;> simp
theorem nox_any : NoXl anyF := by intro ds n; unfold anyF; split <;> (try split) <;> simp
theorem nox_tup : NoXl tupF := by intro ds n; unfold tupF; split <;> simp
theorem nox_lst : NoXl lstF := by intro ds n; unfold lstF; split <;> simp
theorem nox_int : NoXl intF := by intro ds n; unfold intF; split <;> simp
theorem nox_str : NoXl strF := by intro ds n; unfold strF; split <;> simp
theorem nox_sorted : NoXl sortedF := by intro ds n; unfold sortedF; split <;> (try split) <;> simp
def rLenA (K : PySem.W.Frag) : List V → Hp → VK → Prop := fun xs H Q => (∃ p ys, xs = [.ref p] ∧ (SqL K H p ys ∨ SqT K H p ys) ∧ Q (.int ys.length) H) ∨ (∃ z, xs = [.str z] ∧ z.length ≤ sizeLine ∧ Q (.int z.length) H)
theorem cr_lenA : CallR X (.builtin "len") (rLenA X.K) := CallR.or call_len_seq call_len_str
theorem rc_len : RCB X (rLenA X.K) lenF [true] := by
  intro O H vs ds d Q ht h e q
  obtain ⟨v, d', rfl, rfl, r⟩ := rpk1 h
  cases d' <;> simp only [lenF] at e <;> try cases e
  · obtain ⟨rfl, h1⟩ := r.str
    obtain ⟨c, rfl⟩ := okIf_ok e
    exact .inr ⟨_, rfl, of_decide_eq_true c, q _ H Same.refl (.int _)⟩
  · obtain ⟨p, xs, rfl, h1, h2⟩ := r.lst
    exact .inl ⟨p, xs, rfl, .inl (.inl h1), by rw [h2.length]; exact q _ H Same.refl (.int _)⟩
  · obtain ⟨p, xs, rfl, h1, h2⟩ := r.tup
    exact .inl ⟨p, xs, rfl, .inr (.inl h1.2), by rw [h2.length]; exact q _ H Same.refl (.int _)⟩
theorem rc_sum : RCB X (rSum X.K) sumF [true] := by
  intro O H vs ds d Q ht h e q
  obtain ⟨v, d', rfl, rfl, r⟩ := rpk1 h
  cases d' <;> simp only [sumF] at e <;> try cases e
  split at e
  · rename_i ns hns
    cases e
    obtain rfl := intsOf_eq hns
    obtain ⟨p, xs, rfl, h1, h2⟩ := r.lst
    obtain rfl := rp_ints h2
    exact ⟨p, ns, rfl, .inl h1, q _ H Same.refl (.int _)⟩
  · cases e
theorem foldl_min_mem : ∀ (ns : List Int) (n : Int), ns.foldl min n ∈ n :: ns
  | [], n => by simp
  | m :: ns, n => by
    rw [List.foldl_cons]
    have h := foldl_min_mem ns (min n m)
    rcases List.mem_cons.mp h with h | h
    · rw [h]
      rcases Int.min_def n m ▸ (by split <;> simp : (if n ≤ m then n else m) = n ∨ (if n ≤ m then n else m) = m) with z | z <;> simp [z]
    · exact List.mem_cons_of_mem _ (List.mem_cons_of_mem _ h)
theorem foldl_min_le : ∀ (ns : List Int) (n : Int), ns.foldl min n ≤ n ∧ ∀ m ∈ ns, ns.foldl min n ≤ m
  | [], n => by simp
  | m :: ns, n => by
    rw [List.foldl_cons]
    obtain ⟨h1, h2⟩ := foldl_min_le ns (min n m)
    refine ⟨by omega, fun k hk => ?_⟩
    rcases List.mem_cons.mp hk with rfl | hk
    · omega
    · exact h2 k hk
theorem foldl_max_mem : ∀ (ns : List Int) (n : Int), ns.foldl max n ∈ n :: ns
  | [], n => by simp
  | m :: ns, n => by
    rw [List.foldl_cons]
    have h := foldl_max_mem ns (max n m)
    rcases List.mem_cons.mp h with h | h
    · rw [h]
      rcases Int.max_def n m ▸ (by split <;> simp : (if n ≤ m then m else n) = n ∨ (if n ≤ m then m else n) = m) with z | z <;> simp [z]
    · exact List.mem_cons_of_mem _ (List.mem_cons_of_mem _ h)
theorem foldl_max_ge : ∀ (ns : List Int) (n : Int), n ≤ ns.foldl max n ∧ ∀ m ∈ ns, m ≤ ns.foldl max n
  | [], n => by simp
  | m :: ns, n => by
    rw [List.foldl_cons]
    obtain ⟨h1, h2⟩ := foldl_max_ge ns (max n m)
    refine ⟨by omega, fun k hk => ?_⟩
    rcases List.mem_cons.mp hk with rfl | hk
    · omega
    · exact h2 k hk
def rMinA (K : PySem.W.Frag) : List V → Hp → VK → Prop := fun xs H Q => rMin K xs H Q ∨ (∃ i j, xs = [.int i, .int j] ∧ Q (.int (if j < i then j else i)) H)
def rMaxA (K : PySem.W.Frag) : List V → Hp → VK → Prop := fun xs H Q => rMax K xs H Q ∨ (∃ i j, xs = [.int i, .int j] ∧ Q (.int (if j > i then j else i)) H)
theorem rc_min1 : RCB X (rMinA X.K) minF [true] := by
  intro O H vs ds d Q ht h e q
  obtain ⟨v, d', rfl, rfl, r⟩ := rpk1 h
  cases d' <;> simp only [minF] at e <;> try cases e
  split at e
  · rename_i n ns hns
    cases e
    obtain rfl := intsOf_eq hns
    obtain ⟨p, xs, rfl, h1, h2⟩ := r.lst
    obtain rfl := rp_ints h2
    refine .inl ⟨p, n :: ns, rfl, .inl h1, by simp, fun m hm hl => ?_⟩
    have e1 := hl _ (foldl_min_mem ns n)
    obtain ⟨e2, e3⟩ := foldl_min_le ns n
    have e4 : ns.foldl min n ≤ m := by
      rcases List.mem_cons.mp hm with rfl | hm
      · exact e2
      · exact e3 m hm
    have e5 : ns.foldl min n = m := by omega
    rw [e5] at q
    exact q _ H Same.refl (.int _)
  · cases e
theorem rc_min2 : RCB X (rMinA X.K) minF [true, true] := by
  intro O H vs ds d Q ht h e q
  obtain ⟨v, w, d', e', rfl, rfl, r1, r2⟩ := rpk2 h
  cases d' <;> cases e' <;> simp only [minF] at e <;> try cases e
  obtain rfl := r1.int; obtain rfl := r2.int
  refine .inr ⟨_, _, rfl, ?_⟩
  rename_i i j
  have e5 : (if j < i then j else i) = min i j := by split <;> omega
  rw [e5]
  exact q _ H Same.refl (.int _)
theorem rc_max1 : RCB X (rMaxA X.K) maxF [true] := by
  intro O H vs ds d Q ht h e q
  obtain ⟨v, d', rfl, rfl, r⟩ := rpk1 h
  cases d' <;> simp only [maxF] at e <;> try cases e
  split at e
  · rename_i n ns hns
    cases e
    obtain rfl := intsOf_eq hns
    obtain ⟨p, xs, rfl, h1, h2⟩ := r.lst
    obtain rfl := rp_ints h2
    refine .inl ⟨p, n :: ns, rfl, .inl h1, by simp, fun m hm hl => ?_⟩
    have e1 := hl _ (foldl_max_mem ns n)
    obtain ⟨e2, e3⟩ := foldl_max_ge ns n
    have e4 : m ≤ ns.foldl max n := by
      rcases List.mem_cons.mp hm with rfl | hm
      · exact e2
      · exact e3 m hm
    have e5 : ns.foldl max n = m := by omega
    rw [e5] at q
    exact q _ H Same.refl (.int _)
  · cases e
theorem rc_max2 : RCB X (rMaxA X.K) maxF [true, true] := by
  intro O H vs ds d Q ht h e q
  obtain ⟨v, w, d', e', rfl, rfl, r1, r2⟩ := rpk2 h
  cases d' <;> cases e' <;> simp only [maxF] at e <;> try cases e
  obtain rfl := r1.int; obtain rfl := r2.int
  refine .inr ⟨_, _, rfl, ?_⟩
  rename_i i j
  have e5 : (if j > i then j else i) = max i j := by split <;> omega
  rw [e5]
  exact q _ H Same.refl (.int _)
theorem cr_minA (g : Gd X W k) : CallR X (.builtin "min") (rMinA X.K) := CallR.or (cr_min g.hc) (call_min2 g.hc)
theorem cr_maxA (g : Gd X W k) : CallR X (.builtin "max") (rMaxA X.K) := CallR.or (cr_max g.hc) (call_max2 g.hc)
theorem rc_abs : RCB X (fun xs H Q => ∃ i, xs = [.int i] ∧ Q (.int (if i < 0 then -i else i)) H) absF [true] := by
  intro O H vs ds d Q ht h e q
  obtain ⟨v, d', rfl, rfl, r⟩ := rpk1 h
  cases d' <;> simp only [absF] at e <;> try cases e
  obtain rfl := r.int
  exact ⟨_, rfl, q _ H Same.refl (.int _)⟩
theorem rc_all : RCB X (rAll X.K) allF [true] := by
  intro O H vs ds d Q ht h e q
  obtain ⟨v, d', rfl, rfl, r⟩ := rpk1 h
  cases d' <;> simp only [allF] at e <;> try cases e
  split at e
  · rename_i ns hns
    cases e
    obtain rfl := boolsOf_eq hns
    obtain ⟨p, xs, rfl, h1, h2⟩ := r.lst
    obtain rfl := rp_bools h2
    exact ⟨p, ns, rfl, .inl h1, q _ H Same.refl (.bl _)⟩
  · cases e
theorem rc_any : RCB X (rAny X.K) anyF [true] := by
  intro O H vs ds d Q ht h e q
  obtain ⟨v, d', rfl, rfl, r⟩ := rpk1 h
  cases d' <;> simp only [anyF] at e <;> try cases e
  split at e
  · rename_i ns hns
    cases e
    obtain rfl := boolsOf_eq hns
    obtain ⟨p, xs, rfl, h1, h2⟩ := r.lst
    obtain rfl := rp_bools h2
    exact ⟨p, ns, rfl, .inl h1, q _ H Same.refl (.bl _)⟩
  · cases e
theorem rc_tup : RCB X (fun xs H Q => ∃ p ys, xs = [.ref p] ∧ ((SqL X.K H p ys ∧ ∀ l, H l = none → Q (.ref l) (upd H l (.tup ys))) ∨ (SqT X.K H p ys ∧ Q (.ref p) H))) tupF [true] := by
  intro O H vs ds d Q ht h e q
  obtain ⟨v, d', rfl, rfl, r⟩ := rpk1 h
  cases d' <;> simp only [tupF] at e <;> try cases e
  · obtain ⟨p, xs, rfl, h1, h2⟩ := r.lst
    exact ⟨p, xs, rfl, .inl ⟨.inl h1, fun l hl => q _ _ (same_upd hl) (new_tup ht hl h2)⟩⟩
  · obtain ⟨p, xs, rfl, h1, h2⟩ := r.tup
    exact ⟨p, xs, rfl, .inr ⟨.inl h1.2, q _ H Same.refl (.tup h1 h2)⟩⟩
theorem rc_lst : RCO X (fun xs H Q => ∃ p ys, xs = [.ref p] ∧ (SqL X.K H p ys ∨ SqT X.K H p ys) ∧ ∀ l, H l = none → Q (.ref l) (upd H l (.lst ys))) lstF [true] := by
  intro O H vs ds d Q ht h e q
  obtain ⟨v, d', rfl, rfl, r⟩ := rpk1 h
  cases d' <;> simp only [lstF] at e <;> try cases e
  · obtain ⟨p, xs, rfl, h1, h2⟩ := r.lst
    exact ⟨p, xs, rfl, .inl (.inl h1), fun l hl => q _ _ (same_upd hl) ⟨l, rfl, hl, new_own hl h2⟩⟩
  · obtain ⟨p, xs, rfl, h1, h2⟩ := r.tup
    exact ⟨p, xs, rfl, .inr (.inl h1.2), fun l hl => q _ _ (same_upd hl) ⟨l, rfl, hl, new_own hl h2⟩⟩
theorem rc_int : RCB X (fun xs H Q => (∃ i, xs = [.int i] ∧ Q (.int i) H) ∨ ∃ k : Bool, xs = [.bl k] ∧ Q (.int (if k = true then 1 else 0)) H) intF [true] := by
  intro O H vs ds d Q ht h e q
  obtain ⟨v, d', rfl, rfl, r⟩ := rpk1 h
  cases d' <;> simp only [intF] at e <;> try cases e
  · obtain rfl := r.bool
    exact .inr ⟨_, rfl, q _ H Same.refl (.int _)⟩
  · obtain rfl := r.int
    exact .inl ⟨_, rfl, q _ H Same.refl (.int _)⟩
theorem strOk_ofString (s : String) : PyData.strOk (Str.ofString s) = true := by
  rw [Str.ofString_eq_toList]
  refine strOk_iff.mpr fun c hc => ?_
  simp only [List.toList_toArray, List.mem_map] at hc
  obtain ⟨z, _, rfl⟩ := hc
  have h := z.valid
  show z.val.toNat < _
  rcases h with h | ⟨_, h⟩
  · have : z.val.toNat < 0xd800 := h
    omega
  · exact h
def rStrA : List V → Hp → VK → Prop := fun xs H Q => (∃ i : Int, xs = [.int i] ∧ i.natAbs.log2 < 1920 ∧ Q (.str (toString i)) H) ∨ ∃ a, xs = [.str a] ∧ Q (.str a) H
theorem cr_strA : CallR X (.type "str") rStrA := CallR.or call_str_int SkE.call_str_str
theorem rc_str : RCB X rStrA strF [true] := by
  intro O H vs ds d Q ht h e q
  obtain ⟨v, d', rfl, rfl, r⟩ := rpk1 h
  cases d' <;> simp only [strF] at e <;> try cases e
  · obtain rfl := r.int
    obtain ⟨c, rfl⟩ := okIf_ok e
    exact .inl ⟨_, rfl, of_decide_eq_true c, q _ H Same.refl (.str _ (strOk_ofString _))⟩
  · obtain ⟨rfl, h1⟩ := r.str
    exact .inr ⟨_, rfl, q _ H Same.refl (.str _ h1)⟩
theorem srtI_eq {ns ns' : List Int} (hp : ns'.Perm ns) (hs : ns'.Pairwise (· ≤ ·)) : ns' = srtI ns := by
  have h1 : (srtI ns).Perm ns := List.mergeSort_perm _ _
  have h2 : (srtI ns).Pairwise (fun a b => decide (a ≤ b) = true) := List.pairwise_mergeSort (fun a b c h k => by simp at *; omega) (fun a b => by simp; omega) ns
  refine (hp.trans h1.symm).eq_of_pairwise (fun a b _ _ h k => ?_) hs (h2.imp fun h => by simpa using h)
  exact Int.le_antisymm h k
theorem rc_sorted : RCO X (rSortedI X.K) sortedF [true] := by
  intro O H vs ds d Q ht h e q
  obtain ⟨v, d', rfl, rfl, r⟩ := rpk1 h
  cases d' <;> simp only [sortedF] at e <;> try cases e
  split at e
  · rename_i ns hns
    cases e
    obtain rfl := intsOf_eq hns
    obtain ⟨p, xs, rfl, h1, h2⟩ := r.lst
    obtain rfl := rp_ints h2
    refine ⟨p, ns, rfl, .inl h1, fun ns' l hp hs hl => ?_⟩
    rw [srtI_eq hp hs]
    exact q _ _ (same_upd hl) ⟨l, rfl, hl, new_own hl (ints_rp _)⟩
  · cases e

/-! ### isinstance -/
def isiD (T : String) : D → Bool
  | .none => T == "NoneType"
  | .bool _ => T == "bool" || T == "int"
  | .int _ => T == "int"
  | .str _ => T == "str"
  | .list _ => T == "list"
  | .tuple _ => T == "tuple"
  | .dict _ => T == "dict"
def okTy (T : String) : Bool := ["int", "bool", "str", "tuple", "list"].contains T
def tyN : D → String
  | .none => "NoneType"
  | .bool _ => "bool"
  | .int _ => "int"
  | .str _ => "str"
  | .list _ => "list"
  | .tuple _ => "tuple"
  | .dict _ => "dict"
theorem isi_kit {K : PySem.W.Frag} {T : String} (hT : okTy T = true) (d : D) (hd : match d with | .dict _ => False | _ => True) : PySem.W.kitOne K (.type (tyN d)) (.type T) = some (isiD T d) := by
  have : T = "int" ∨ T = "bool" ∨ T = "str" ∨ T = "tuple" ∨ T = "list" := by simpa [okTy] using hT
  rcases this with rfl | rfl | rfl | rfl | rfl <;> cases d <;> first | exact hd.elim | (simp only [tyN, isiD]; exact kit_ty (by decide +kernel))
theorem rs_ty {K : PySem.W.Frag} {O : List Addr} {H : Hp} {v : V} {d : D} (h : Rs K O H H v d) : TyX K H v (.type (tyN d)) := by
  cases d with
  | none => obtain rfl := h.non; exact .base .non
  | bool b => obtain rfl := h.bool; exact .base (.bl b)
  | int i => obtain rfl := h.int; exact .base (.int i)
  | str x => obtain ⟨rfl, _⟩ := h.str; exact .base (.str x)
  | list ds =>
    obtain ⟨p, xs, rfl, h1, _⟩ := h.lst
    rcases h1 with h1 | ⟨o, h1⟩
    · exact .base (.lst h1)
    · exact .base (.frz h1)
  | tuple ds =>
    obtain ⟨p, xs, rfl, h1, _⟩ := h.tup
    rcases h1.2 with h1 | ⟨o, h1⟩
    · exact .base (.tup h1)
    · exact .fTuple h1
  | dict ds => exact h.dict.elim
def isiF (T : String) : D → R D := fun d => .ok (.bool (isiD T d))
def tIsi (K : PySem.W.Frag) (mg : Str → Option Value) (W : WX) (B Ω : List Nat) (T : String) (g : Env → R D) : TA := tCons (tB K mg W B Ω g) (tCons (tC (.ty T)) tNil)
theorem px_isi {T : String} {pT : Pos} {nT : Str} (hg : Gl X "isinstance") (hm : X.mg "isinstance" = none) (hgT : Gl X nT) (hmT : X.mg nT = none) (hvT : bootBuiltins nT = some (.type T)) (hT : okTy T = true) (ha : PB X W B Ω a ga)
    (hn : nT ≠ "__name__" := by decide) (hd : (nT == ("__debug__" : Str)) = false := by decide) (hs : starEach [a, .Name nT pT] X.env = (false, eval a X.env) :: starEach [.Name nT pT] X.env := by rfl) (hs2 : starEach [.Name nT pT] X.env = (false, eval (.Name nT pT) X.env) :: starEach [] X.env := by rfl)
    (hpl : (backTo pos (starEach [.Name nT pT] X.env)).any (·.1) = false := by rfl) :
    PX X W B Ω (.Call (.Name "isinstance" p) [a, .Name nT pT] [] pos) (x1 (isiF T) ga) := by
  refine PE.imp (pe_callB call_isi hg hm (by decide +kernel) (pa_cons ha (pa_cons (pe_bltn (v := .ty T) hgT hmT hvT rfl hn hd) pa_nil hs2) hs) (by decide) (by decide) hs hpl) fun σ H Q ⟨H0, O0, O, ρ, S, h⟩ => ⟨H0, O0, O, ρ, S, Good.bind (f := isiF T) h fun d v H1 e s1 r1 h1 => ?_⟩
  exact ⟨v, .ty T, _, .type T, _, rfl, .ty T, rs_ty r1, isi_kit (K := X.K) hT d (by cases d <;> first | trivial | exact r1.dict.elim), h1.use (.bl _)⟩

/-! ### the text's own defs -/
/-- what a def hands back -/
def RetG (K : PySem.W.Frag) (fr : Bool) (O : List Addr) (H : Hp) (d : D) (Q : VK) : Prop :=
  if fr = true then ∀ v H', Same H H' → RelO K O H H' v d → Q v H' else ∀ v H', Same H H' → Rp K O H' v d → Q v H'
def spM (K : PySem.W.Frag) (mg : Str → Option Value) (ks : List Bool) (fr : Bool) (g : List D → R D) : Sp := fun vs H Q E => ∃ O ds, (∀ a ∈ O, H a ≠ none) ∧ RpK K O H ks vs ds ∧
  match g ds with
  | .ok d => RetG K fr O H d Q
  | .exc n => ∀ C H', mg n = some (Value.ref C) → Same H H' → E (.ref C) none H'
  | .stuck => False
variable {f : Addr} {fd : FuncData} {ps : List Str} {g : List D → R D} {j : Nat}
theorem px_call (G : Gd X W k) (F : FnOk X.prog X.w X.K X.mg X.base (L2.CX X.prog X.w) j f fd ps (spM X.K X.mg ks false g)) (hj : j ≤ k) (hg : Gl X nm) (hm : X.mg nm = some (.ref f)) (hk : PySem.W.keepIn X.K (.ref f) = true) (hb : Binds X.K fd ps [])
    (ha : PAk X W B Ω ks (e :: es) gs) (hdb : (nm == ("__debug__" : Str)) = false := by decide) (he : starEach (e :: es) X.env = (false, eval e X.env) :: starEach es X.env := by rfl) (hpl : (backTo pos (starEach es X.env)).any (·.1) = false := by rfl) :
    PX X W B Ω (.Call (.Name nm p) (e :: es) [] pos) (xCall g gs) :=
  PE.imp (pe_callS F (G.hr.mono hj) hg hm hk hb (fun σ => passAt G.tk σ) ha hdb he hpl) fun σ H Q ⟨H0, O0, O, ρ, S, h⟩ => ⟨H0, O0, O, ρ, S, Good.bind (f := g) h fun ds vs H1 e s1 r1 h1 => by
    refine ⟨O, ds, (S.same s1).trk, r1, ?_⟩
    cases q : g ds with
    | ok d => rw [q] at h1; exact h1
    | exc n => rw [q] at h1; exact h1
    | stuck => rw [q] at h1; exact h1⟩
theorem po_call (G : Gd X W k) (F : FnOk X.prog X.w X.K X.mg X.base (L2.CX X.prog X.w) j f fd ps (spM X.K X.mg ks true g)) (hj : j ≤ k) (hg : Gl X nm) (hm : X.mg nm = some (.ref f)) (hk : PySem.W.keepIn X.K (.ref f) = true) (hb : Binds X.K fd ps [])
    (ha : PAk X W B Ω ks (e :: es) gs) (hdb : (nm == ("__debug__" : Str)) = false := by decide) (he : starEach (e :: es) X.env = (false, eval e X.env) :: starEach es X.env := by rfl) (hpl : (backTo pos (starEach es X.env)).any (·.1) = false := by rfl) :
    PO X W B Ω (.Call (.Name nm p) (e :: es) [] pos) (xCall g gs) :=
  PE.imp (pe_callS F (G.hr.mono hj) hg hm hk hb (fun σ => passAt G.tk σ) ha hdb he hpl) fun σ H Q ⟨H0, O0, O, ρ, S, h⟩ => ⟨H0, O0, O, ρ, S, Good.bind (f := g) h fun ds vs H1 e s1 r1 h1 => by
    refine ⟨O, ds, (S.same s1).trk, r1, ?_⟩
    cases q : g ds with
    | ok d => rw [q] at h1; exact fun v H' s r => h1 v H' s (rel_back s1 r)
    | exc n => rw [q] at h1; exact h1
    | stuck => rw [q] at h1; exact h1⟩
end
end MV

set_option Elab.async false
set_option linter.all false
set_option maxRecDepth 100000
set_option maxHeartbeats 4000000
namespace MV
open PySem L2

/-! ### the state once more -/
section
variable {K : PySem.W.Frag} {H0 : Hp} {O0 : List Addr} {B Ω : List Nat} {O O' : List Addr} {H H' : Hp} {σ : St} {ρ : Env} {v : V} {d : D} {vs : List V} {ds : List D}
theorem step_rd (s : Step O H O' H') : ∀ a u, a ∉ O → Rd H a u → a ∉ O' ∧ Rd H' a u := fun a u ho r => by
  refine ⟨fun z => ?_, (ge_rd s.ge a u ho r).2⟩
  rcases s.new a z with q | q
  · exact ho q
  · exact MV.Rd.ne r q rfl
theorem Rp.step (s : Step O H O' H') (h : Rp K O H v d) : Rp K O' H' v d := Rp.map (step_rd s) d v h
theorem RpAll.step (s : Step O H O' H') (h : RpAll K O H vs ds) : RpAll K O' H' vs ds := RpAll.map (step_rd s) ds vs h
theorem Stt.set' {i : Nat} (S : Stt K H0 O0 B Ω O H σ ρ) (r : Rp K O H v d) (hB : B.contains i = false) (hΩ : Ω.contains i = false) : Stt K H0 O0 B Ω O H (σ.set i (some v)) (ρ.set i (some d)) := by
  have h := S.set (i := i) r (by simpa using hB)
  have e : Ω.filter (· ≠ i) = Ω := List.filter_eq_self.mpr fun a ha => by
    have : i ∉ Ω := by simpa using hΩ
    simp only [ne_eq, decide_not, Bool.not_eq_eq_eq_not, Bool.not_true, decide_eq_false_iff_not]
    rintro rfl; exact this ha
  rw [e] at h; exact h
/-- a slot is forgotten -/
theorem Stt.unset {i : Nat} {o : Option V} (S : Stt K H0 O0 B Ω O H σ ρ) : Stt K H0 O0 B Ω O H (σ.set i o) (ρ.set i none) where
  keep := S.keep
  trk0 := S.trk0
  sub := S.sub
  trk := S.trk
  fz := fun j e h1 h2 h3 => by
    by_cases hj : i = j
    · subst hj
      by_cases hl : i < ρ.length
      · rw [List.getElem?_set_self hl] at h1; cases h1
      · rw [List.getElem?_eq_none (by simpa using hl)] at h1; cases h1
    · rw [List.getElem?_set_ne hj] at h1
      rw [List.getElem?_set_ne hj]
      exact S.fz j e h1 h2 h3
  bor := fun j e h1 h2 h3 => by
    by_cases hj : i = j
    · subst hj
      by_cases hl : i < ρ.length
      · rw [List.getElem?_set_self hl] at h1; cases h1
      · rw [List.getElem?_eq_none (by simpa using hl)] at h1; cases h1
    · rw [List.getElem?_set_ne hj] at h1
      rw [List.getElem?_set_ne hj]
      exact S.bor j e h1 h2 h3
  ow := fun j e h1 h2 => by
    by_cases hj : i = j
    · subst hj
      by_cases hl : i < ρ.length
      · rw [List.getElem?_set_self hl] at h1; cases h1
      · rw [List.getElem?_eq_none (by simpa using hl)] at h1; cases h1
    · rw [List.getElem?_set_ne hj] at h1
      rw [List.getElem?_set_ne hj]
      exact S.ow j e h1 h2
  dist := fun j hj k hk hne p d e h1 h2 h3 => by
    by_cases a1 : i = j
    · subst a1
      by_cases hl : i < ρ.length
      · rw [List.getElem?_set_self hl] at h1; cases h1
      · rw [List.getElem?_eq_none (by simpa using hl)] at h1; cases h1
    · by_cases a2 : i = k
      · subst a2
        by_cases hl : i < ρ.length
        · rw [List.getElem?_set_self hl] at h2; cases h2
        · rw [List.getElem?_eq_none (by simpa using hl)] at h2; cases h2
      · rw [List.getElem?_set_ne a1] at h1 h3
        rw [List.getElem?_set_ne a2] at h2
        rw [List.getElem?_set_ne a2]
        exact S.dist j hj k hk hne p d e h1 h2 h3
  len := by simp [S.len]
def wipeE (ρ : Env) : List Nat → Env
  | [] => ρ
  | v :: vs => (wipeE ρ vs).set v none
theorem Stt.wipe (S : Stt K H0 O0 B Ω O H σ ρ) : ∀ ws : List Nat, Stt K H0 O0 B Ω O H (L2.wipe σ ws) (wipeE ρ ws)
  | [] => S
  | w :: ws => (Stt.wipe S ws).unset
/-- the address p is watched, too -/
theorem Stt.watch {p : Addr} (S : Stt K H0 O0 B Ω O H σ ρ) (s : Same H H') (hp : H p = none) (hp' : H' p ≠ none) : Stt K H0 O0 B Ω (p :: O) H' σ ρ where
  keep := Same.tr S.keep s
  trk0 := S.trk0
  sub := fun a ha => List.mem_cons_of_mem _ (S.sub a ha)
  trk := fun a ha => by
    rcases List.mem_cons.mp ha with rfl | ha
    · exact hp'
    · exact (S.same s).trk a ha
  fz := fun i d e h1 h2 => let ⟨v, e', r⟩ := S.fz i d e h1 h2; ⟨v, e', (r.fresh hp).same s⟩
  bor := fun i d e h1 h2 => let ⟨v, e', r⟩ := S.bor i d e h1 h2; ⟨v, e', (r.fresh hp).ge Same.refl (Ge.of_same s)⟩
  ow := fun i d e h1 => by
    obtain ⟨q, e', h2, h3, h4⟩ := S.ow i d e h1
    obtain ⟨o, eo⟩ := h4.some
    exact ⟨q, e', List.mem_cons_of_mem _ h2, h3, (h4.fresh hp).ge (Ge.of_same s) ((s q o eo).trans eo.symm)⟩
  dist := S.dist
  len := S.len
/-- what stands at a watched address changes -/
theorem Stt.chg {p : Addr} {o : HO} (S : Stt K H0 O0 B Ω O H σ ρ) (hp : p ∈ O) (h0 : H0 p = none) (hno : ∀ j ∈ Ω, ∀ d, ρ[j]? = some (some d) → σ[j]? ≠ some (some (.ref p))) : Stt K H0 O0 B Ω O (upd H p o) σ ρ := by
  have ge : Ge O H (upd H p o) := fun a u ha e => by rw [upd_ne (fun z => ha (by rw [z]; exact hp))]; exact e
  refine ⟨fun a u e => ?_, S.trk0, S.sub, fun a ha => ?_, fun i d e h1 h2 => ?_, fun i d e h1 h2 => ?_, fun i d e h1 => ?_, S.dist, S.len⟩
  · have : a ≠ p := fun z => by rw [z, h0] at e; cases e
    rw [upd_ne this]; exact S.keep a u e
  · by_cases h : a = p
    · subst h; rw [upd_same]; simp
    · rw [upd_ne h]; exact S.trk a ha
  · obtain ⟨v, e', r⟩ := S.fz i d e h1 h2
    exact ⟨v, e', r.ge ge⟩
  · obtain ⟨v, e', r⟩ := S.bor i d e h1 h2
    exact ⟨v, e', r.ge Same.refl ge⟩
  · obtain ⟨q, e', h2, h3, h4⟩ := S.ow i d e h1
    have hq : q ≠ p := fun z => hno i h1 d e (z ▸ e')
    exact ⟨q, e', h2, h3, h4.ge ge (upd_ne hq)⟩
/-- the own thing of a slot changes -/
theorem Stt.put {i : Nat} {p : Addr} {o : HO} {e d : D} (S : Stt K H0 O0 B Ω O H σ ρ) (hi : i ∈ Ω) (hB : i ∉ B) (he : ρ[i]? = some (some e)) (hp : σ[i]? = some (some (.ref p))) (w : OwnAt K O (upd H p o) p d) :
    Stt K H0 O0 B Ω O (upd H p o) σ (ρ.set i (some d)) ∧ Step O H O (upd H p o) := by
  obtain ⟨q, e1, e2, e3, e4⟩ := S.ow i e he hi
  rw [hp] at e1; cases e1
  have ge : Ge O H (upd H p o) := fun a u ha e => by rw [upd_ne (fun z => ha (by rw [z]; exact e2))]; exact e
  refine ⟨⟨fun a u e => ?_, S.trk0, S.sub, fun a ha => ?_, fun j d h1 h2 h3 => ?_, fun j d h1 h2 h3 => ?_, fun j d h1 h2 => ?_, fun j hj k hk hne q d' e' h1 h2 h3 => ?_, by simp [S.len]⟩, ge, fun a h => .inl h⟩
  · have : a ≠ p := fun z => by rw [z, e3] at e; cases e
    rw [upd_ne this]; exact S.keep a u e
  · by_cases h : a = p
    · subst h; rw [upd_same]; simp
    · rw [upd_ne h]; exact S.trk a ha
  · have hj : i ≠ j := fun z => h2 (z ▸ hi)
    rw [List.getElem?_set_ne hj] at h1
    obtain ⟨v, e', r⟩ := S.fz j d h1 h2 h3
    exact ⟨v, e', r.ge ge⟩
  · have hj : i ≠ j := fun z => h2 (z ▸ hi)
    rw [List.getElem?_set_ne hj] at h1
    obtain ⟨v, e', r⟩ := S.bor j d h1 h2 h3
    exact ⟨v, e', r.ge Same.refl ge⟩
  · by_cases hj : i = j
    · subst hj
      obtain ⟨hl, _⟩ := List.getElem?_eq_some_iff.mp he
      rw [List.getElem?_set_self hl] at h1
      cases h1
      exact ⟨p, hp, e2, e3, w⟩
    · rw [List.getElem?_set_ne hj] at h1
      obtain ⟨q, e', r2, r3, r4⟩ := S.ow j d h1 h2
      have hq : q ≠ p := fun z => S.dist i hi j h2 hj p _ _ he h1 hp (z ▸ e')
      exact ⟨q, e', r2, r3, r4.ge ge (upd_ne hq)⟩
  · have back : ∀ {m : Nat} {x : D}, (ρ.set i (some d))[m]? = some (some x) → ∃ y, ρ[m]? = some (some y) := fun {m x} h => by
      by_cases hm : i = m
      · subst hm; exact ⟨e, he⟩
      · rw [List.getElem?_set_ne hm] at h; exact ⟨x, h⟩
    obtain ⟨y1, k1⟩ := back h1
    obtain ⟨y2, k2⟩ := back h2
    exact S.dist j hj k hk hne q _ _ k1 k2 h3
end

/-! ### targets -/
section
variable {X : Cx} {W : WX} {B Ω : List Nat} {k : Nat}
def TgU (K : PySem.W.Frag) (B Ω : List Nat) (g : TG) (is : List Nat) (bnd : D → Env → Option Env) : Prop :=
  ∀ {H0 : Hp} {O0 O : List Addr} {H : Hp} {σ : St} {ρ ρ' : Env} {v : V} {d : D} {Q : St → Hp → Prop}, Stt K H0 O0 B Ω O H σ ρ → Rp K O H v d → bnd d ρ = some ρ' →
    (∀ σ', Stt K H0 O0 B Ω O H σ' ρ' → (∀ ws : List Nat, (∀ i ∈ is, i ∈ ws) → wipe σ' ws = wipe σ ws) → (∀ j ∈ Ω, σ'[j]? = σ[j]?) → Q σ' H) → g v σ H Q
def bName (i : Nat) : D → Env → Option Env := fun d ρ => some (ρ.set i (some d))
theorem wipe_get : ∀ (ws : List Nat) (σ : St) (j : Nat), (wipe σ ws)[j]? = if j ∈ ws then (if j < σ.length then some none else none) else σ[j]?
  | [], σ, j => by simp [wipe]
  | w :: ws, σ, j => by
    unfold wipe
    by_cases hj : w = j
    · subst hj
      rw [if_pos List.mem_cons_self]
      by_cases hl : w < σ.length
      · rw [List.getElem?_set_self (by rw [wipe_length]; exact hl), if_pos hl]
      · rw [List.getElem?_eq_none (by rw [List.length_set, wipe_length]; omega), if_neg hl]
    · rw [List.getElem?_set_ne hj, wipe_get ws σ j]
      by_cases hm : j ∈ ws
      · rw [if_pos hm, if_pos (List.mem_cons_of_mem _ hm)]
      · rw [if_neg hm, if_neg (fun z => (List.mem_cons.mp z).elim (fun q => hj q.symm) hm)]
theorem wipe_set {σ : St} {ws : List Nat} {i : Nat} {o : Option V} (h : i ∈ ws) : wipe (σ.set i o) ws = wipe σ ws := by
  apply List.ext_getElem?
  intro j
  rw [wipe_get, wipe_get, List.length_set]
  by_cases hj : j ∈ ws
  · rw [if_pos hj, if_pos hj]
  · rw [if_neg hj, if_neg hj, List.getElem?_set_ne (fun z => hj (by rw [← z]; exact h))]
theorem tgu_name {K : PySem.W.Frag} {i : Nat} (hB : B.contains i = false) (hΩ : Ω.contains i = false) : TgU K B Ω (gName i) [i] (bName i) :=
  fun {H0 O0 O H σ ρ ρ' v d Q} S r e q => by
    cases e
    refine q _ (S.set' r hB hΩ) (fun ws h => wipe_set (h i List.mem_cons_self)) fun j hj => List.getElem?_set_ne fun z => ?_
    have : i ∉ Ω := by simpa using hΩ
    exact this (z ▸ hj)
def setAll : Env → List Nat → List D → Option Env
  | ρ, [], [] => some ρ
  | ρ, i :: is, d :: ds => setAll (ρ.set i (some d)) is ds
  | _, _, _ => none
def bTup (is : List Nat) : D → Env → Option Env := fun d ρ => match d with
  | .tuple ds => setAll ρ is ds
  | _ => none
def TgsU (K : PySem.W.Frag) (B Ω : List Nat) (g : TGs) (is : List Nat) : Prop :=
  ∀ {H0 : Hp} {O0 O : List Addr} {H : Hp} {σ : St} {ρ ρ' : Env} {vs : List V} {ds : List D} {Q : St → Hp → Prop}, Stt K H0 O0 B Ω O H σ ρ → RpAll K O H vs ds → setAll ρ is ds = some ρ' →
    (∀ σ', Stt K H0 O0 B Ω O H σ' ρ' → (∀ ws : List Nat, (∀ i ∈ is, i ∈ ws) → wipe σ' ws = wipe σ ws) → (∀ j ∈ Ω, σ'[j]? = σ[j]?) → Q σ' H) → g vs σ H Q
theorem tgsu_nil {K : PySem.W.Frag} : TgsU K B Ω gNil [] := fun {H0 O0 O H σ ρ ρ' vs ds Q} S r e q => by
    cases ds with
    | nil => cases r; cases e; exact ⟨rfl, q _ S (fun _ _ => rfl) fun _ _ => rfl⟩
    | cons d ds => cases e
theorem tgsu_cons {K : PySem.W.Frag} {i : Nat} {g : TGs} {is : List Nat} (hB : B.contains i = false) (hΩ : Ω.contains i = false) (h : TgsU K B Ω g is) : TgsU K B Ω (gCons (gName i) g) (i :: is) :=
  fun {H0 O0 O H σ ρ ρ' vs ds Q} S r e q => by
    cases ds with
    | nil => cases e
    | cons d ds =>
      cases r with
      | cons r1 r2 =>
        refine ⟨_, _, rfl, h (S.set' r1 hB hΩ) r2 e fun σ' S' hw ho => q σ' S' (fun ws hh => ?_) fun j hj => ?_⟩
        · rw [hw ws fun z hz => hh z (List.mem_cons_of_mem _ hz), wipe_set (hh i List.mem_cons_self)]
        · rw [ho j hj]
          refine List.getElem?_set_ne fun z => ?_
          have : i ∉ Ω := by simpa using hΩ
          exact this (z ▸ hj)
theorem setAll_len : ∀ {is : List Nat} {ds : List D} {ρ ρ' : Env}, setAll ρ is ds = some ρ' → ds.length = is.length
  | [], [], _, _, _ => rfl
  | i :: is, d :: ds, ρ, ρ', h => by simp [setAll_len (show setAll (ρ.set i (some d)) is ds = some ρ' from h)]
  | [], d :: ds, _, _, h => by cases h
  | i :: is, [], _, _, h => by cases h
theorem tgu_tup {K : PySem.W.Frag} {g : TGs} {is : List Nat} {n : Nat} (h : TgsU K B Ω g is) (hn : is.length = n) : TgU K B Ω (gTup K n g) is (bTup is) :=
  fun {H0 O0 O H σ ρ ρ' v d Q} S r e q => by
    cases d <;> simp only [bTup] at e <;> try cases e
    cases r with
    | tup h1 h2 => exact ⟨_, _, rfl, .inl h1.2, by rw [h2.length, setAll_len e, hn], h S h2 e q⟩
end

/-! ### what is walked -/
section
variable {X : Cx} {W : WX} {B Ω : List Nat} {k : Nat} {tg a b e : Expr} {ga gb : Env → R D} {pos p : Pos}
/-- the iterator J hands out ds; H1: where it was made -/
def ItOk (K : PySem.W.Frag) (H0 : Hp) (O : List Addr) (H1 : Hp) (J : It) (ds : List D) : Prop := ∀ O' H', Same H0 H' → Step O H1 O' H' → (∀ a ∈ O', H' a ≠ none) →
  (∀ (i : Nat) d, ds[i]? = some d → J.go i H' ∧ ∀ x H2, J.yld i H' x H2 → Same H' H2 ∧ Rp K O' H2 x d) ∧ J.stop ds.length H'
def ItOkc (K : PySem.W.Frag) (O : List Addr) (H1 : Hp) (J : It) (ds : List D) : Prop := ∀ O' H', Same H1 H' → Step O H1 O' H' → (∀ a ∈ O', H' a ≠ none) →
  (∀ (i : Nat) d, ds[i]? = some d → J.go i H' ∧ ∀ x H2, J.yld i H' x H2 → Same H' H2 ∧ Rp K O' H2 x d) ∧ J.stop ds.length H'
def GoodI (mg : Str → Option Value) (W : WX) (σ : St) (P : Hp → It → List D → Prop) (H : Hp) (r : R (List D)) (Q : It → Hp → Prop) : Prop := Good (β := It) mg W σ (fun H1 J ds => P H1 J ds) H r Q
def tIs (K : PySem.W.Frag) (mg : Str → Option Value) (W : WX) (B Ω : List Nat) (g : Env → R (List D)) : TI := fun σ H Q => ∃ H0 O0 O ρ, Stt K H0 O0 B Ω O H σ ρ ∧ Good mg W σ (fun H1 J ds => ItOk K H0 O H1 J ds) H (g ρ) Q
def tIc (K : PySem.W.Frag) (mg : Str → Option Value) (W : WX) (B Ω : List Nat) (g : Env → R (List D)) : TI := fun σ H Q => ∃ H0 O0 O ρ, Stt K H0 O0 B Ω O H σ ρ ∧ Good mg W σ (fun H1 J ds => ItOkc K O H1 J ds) H (g ρ) Q
def PIs (X : Cx) (W : WX) (B Ω : List Nat) (tg e : Expr) (g : Env → R (List D)) : Prop := PI X tg e (tIs X.K X.mg W B Ω g)
def PIc (X : Cx) (W : WX) (B Ω : List Nat) (tg e : Expr) (g : Env → R (List D)) : Prop := PI X tg e (tIc X.K X.mg W B Ω g)
theorem PI.imp {tg e : Expr} {t t' : TI} (h : PI X tg e t) (w : ∀ σ H Q, t' σ H Q → t σ H Q) : PI X tg e t' := ⟨fun pins s σ H R I q => h.run pins s σ H R I (w σ H R q)⟩
theorem PI.or {tg e : Expr} {t t' : TI} (h : PI X tg e t) (h' : PI X tg e t') : PI X tg e (fun σ H R => t σ H R ∨ t' σ H R) := ⟨fun pins s σ H R I q => q.elim (h.run pins s σ H R I) (h'.run pins s σ H R I)⟩
def seqD : D → R (List D)
  | .list ds => .ok ds
  | .tuple ds => .ok ds
  | .str z => .ok (z.cps.toList.map fun c => .str ⟨#[c]⟩)
  | _ => .stuck
def xSeq (g : Env → R D) : Env → R (List D) := fun ρ => (g ρ).bind seqD
theorem list_it {K : PySem.W.Frag} {O O' : List Addr} {H1 H' : Hp} {a : Addr} {xs : List V} {ds : List D} (h : RpAll K O H1 xs ds) (s : Step O H1 O' H') (r : Rd H' a (.lst xs)) (inj : ∀ ys, SqL K H' a ys → ys = xs) :
    (∀ (i : Nat) d, ds[i]? = some d → (Itl K a).go i H' ∧ ∀ x H2, (Itl K a).yld i H' x H2 → Same H' H2 ∧ Rp K O' H2 x d) ∧ (Itl K a).stop ds.length H' := by
  refine ⟨fun i d e => ?_, xs, .inl r, by rw [h.length]; exact Nat.le_refl _⟩
  obtain ⟨v, ev, rv⟩ := h.get e
  refine ⟨⟨xs, v, .inl r, ev⟩, fun x H2 ⟨e2, y⟩ => ?_⟩
  subst e2
  have := y xs (.inl r)
  rw [ev] at this; cases this
  exact ⟨Same.refl, rv.step s⟩
theorem tup_it {K : PySem.W.Frag} {O O' : List Addr} {H1 H' : Hp} {a : Addr} {xs : List V} {ds : List D} (h : RpAll K O H1 xs ds) (s : Step O H1 O' H') (r : Rd H' a (.tup xs)) :
    (∀ (i : Nat) d, ds[i]? = some d → (Itt K a).go i H' ∧ ∀ x H2, (Itt K a).yld i H' x H2 → Same H' H2 ∧ Rp K O' H2 x d) ∧ (Itt K a).stop ds.length H' := by
  refine ⟨fun i d e => ?_, xs, .inl r, by rw [h.length]; exact Nat.le_refl _⟩
  obtain ⟨v, ev, rv⟩ := h.get e
  refine ⟨⟨xs, v, .inl r, ev⟩, fun x H2 ⟨e2, y⟩ => ?_⟩
  subst e2
  have := y xs (.inl r)
  rw [ev] at this; cases this
  exact ⟨Same.refl, rv.step s⟩
theorem list_it' {K : PySem.W.Frag} {O O' : List Addr} {H1 H' : Hp} {a : Addr} {xs : List V} {ds : List D} (h : RpAll K O H1 xs ds) (s : Step O H1 O' H') (r : Rd H' a (.lst xs)) :
    (∀ (i : Nat) d, ds[i]? = some d → (Itl K a).go i H' ∧ ∀ x H2, (Itl K a).yld i H' x H2 → Same H' H2 ∧ Rp K O' H2 x d) ∧ (Itl K a).stop ds.length H' := by
  refine ⟨fun i d e => ?_, xs, .inl r, by rw [h.length]; exact Nat.le_refl _⟩
  obtain ⟨v, ev, rv⟩ := h.get e
  refine ⟨⟨xs, v, .inl r, ev⟩, fun x H2 ⟨e2, y⟩ => ?_⟩
  subst e2
  have := y xs (.inl r)
  rw [ev] at this; cases this
  exact ⟨Same.refl, rv.step s⟩
theorem str_it {K : PySem.W.Frag} {O' : List Addr} {H' : Hp} {z : Str} (h : PyData.strOk z = true) :
    (∀ (i : Nat) d, (z.cps.toList.map fun c => PyData.str ⟨#[c]⟩)[i]? = some d → (Its z).go i H' ∧ ∀ x H2, (Its z).yld i H' x H2 → Same H' H2 ∧ Rp K O' H2 x d) ∧ (Its z).stop (z.cps.toList.map fun c => PyData.str ⟨#[c]⟩).length H' := by
  refine ⟨fun i d e => ?_, by simp [Its]⟩
  rw [List.getElem?_map] at e
  cases q : z.cps.toList[i]? with
  | none => rw [q] at e; cases e
  | some c =>
    rw [q] at e; cases e
    have hi : i < z.cps.size := by have := (List.getElem?_eq_some_iff.mp q).1; simpa using this
    refine ⟨hi, fun x H2 ⟨e1, c', e2, e3⟩ => ?_⟩
    subst e1 e3
    rw [← Array.getElem?_toList, q] at e2
    cases e2
    exact ⟨Same.refl, .str _ (strOk_sub h fun c' h' => (List.mem_singleton.mp (show c' ∈ [c] from h')) ▸ List.mem_of_getElem? q)⟩
def wSeq (K : PySem.W.Frag) (t : TE) : TI := fun σ H R => iList K t σ H R ∨ (iTup K t σ H R ∨ iStr t σ H R)
theorem pi_seq {t : TE} (h : PE X e t) : PI X tg e (wSeq X.K t) := PI.or (pi_list h) (PI.or (pi_tup h) (pi_str h))
/-- frozen data is walked -/
theorem pis_x (h : PX X W B Ω e ga) : PIs X W B Ω tg e (xSeq ga) := PI.imp (pi_seq h) fun σ H Q ⟨H0, O0, O, ρ, S, h⟩ => by
  have h : Good X.mg W σ (fun H1 J ds => ItOk X.K H0 O H1 J ds) H ((ga ρ).bind seqD) Q := h
  cases q : ga ρ with
  | stuck => rw [q] at h; exact h.elim
  | exc n => rw [q] at h; exact .inl ⟨H0, O0, O, ρ, S, by rw [q]; exact h⟩
  | ok d =>
    rw [q] at h
    cases d <;> first | exact h.elim | skip
    · refine .inr (.inr ⟨H0, O0, O, ρ, S, ?_⟩)
      rw [q]
      intro v H1 s r
      cases r with
      | str _ hz => exact ⟨_, rfl, h _ H1 s fun O' H' _ st _ => str_it hz⟩
    · refine .inl ⟨H0, O0, O, ρ, S, ?_⟩
      rw [q]
      intro v H1 s r
      cases r with
      | lst h1 h2 => exact ⟨_, rfl, ⟨_, .inl h1.2⟩, h _ H1 s fun O' H' _ st _ => list_it' h2 st (ge_rd st.ge _ _ h1.1 h1.2).2⟩
    · refine .inr (.inl ⟨H0, O0, O, ρ, S, ?_⟩)
      rw [q]
      intro v H1 s r
      cases r with
      | tup h1 h2 => exact ⟨_, rfl, ⟨_, .inl h1.2⟩, h _ H1 s fun O' H' _ st _ => tup_it h2 st (ge_rd st.ge _ _ h1.1 h1.2).2⟩
/-- borrowed data is walked in a comprehension -/
theorem pic_b (h : PB X W B Ω e ga) : PIc X W B Ω tg e (xSeq ga) := PI.imp (pi_seq h) fun σ H Q ⟨H0, O0, O, ρ, S, h⟩ => by
  have h : Good X.mg W σ (fun H1 J ds => ItOkc X.K O H1 J ds) H ((ga ρ).bind seqD) Q := h
  cases q : ga ρ with
  | stuck => rw [q] at h; exact h.elim
  | exc n => rw [q] at h; exact .inl ⟨H0, O0, O, ρ, S, by rw [q]; exact h⟩
  | ok d =>
    rw [q] at h
    cases d <;> first | exact h.elim | skip
    · refine .inr (.inr ⟨H0, O0, O, ρ, S, ?_⟩)
      rw [q]
      intro v H1 s r
      obtain ⟨rfl, hz⟩ := r.str
      exact ⟨_, rfl, h _ H1 s fun O' H' _ st _ => str_it hz⟩
    · refine .inl ⟨H0, O0, O, ρ, S, ?_⟩
      rw [q]
      intro v H1 s r
      obtain ⟨p, xs, rfl, h1, h2⟩ := r.lst
      exact ⟨_, rfl, ⟨_, .inl h1⟩, h _ H1 s fun O' H' ss st _ => list_it' h2 st (Rd.same ss h1)⟩
    · refine .inr (.inl ⟨H0, O0, O, ρ, S, ?_⟩)
      rw [q]
      intro v H1 s r
      obtain ⟨p, xs, rfl, h1, h2⟩ := r.tup
      exact ⟨_, rfl, ⟨_, .inl h1.2⟩, h _ H1 s fun O' H' ss st _ => tup_it h2 st (Rd.same ss h1.2)⟩
/-- a borrowed parameter is walked -/
theorem pis_b {i : Nat} {x : Str} (hN : X.N[i]? = some x) (hv : Vis X.env.scope x) (ho : Ω.contains i = false) (hd : (x == ("__debug__" : Str)) = false := by decide) (hcd : (x == ("__classdict__" : Str)) = false := by decide) : PIs X W B Ω tg (.Name x pos) (xSeq (xVar i)) :=
  PI.imp (pi_seq (pe_var hN hv hd hcd)) fun σ H Q ⟨H0, O0, O, ρ, S, h⟩ => by
  have ho : i ∉ Ω := by simpa using ho
  have h : Good X.mg W σ (fun H1 J ds => ItOk X.K H0 O H1 J ds) H ((xVar i ρ).bind seqD) Q := h
  unfold xVar at h
  cases er : ρ[i]? with
  | none => rw [er] at h; exact h.elim
  | some o =>
    cases o with
    | none => rw [er] at h; exact h.elim
    | some d =>
      rw [er] at h
      have fin : ∀ v, σ[i]? = some (some v) → Rs X.K O H0 H v d → wSeq X.K (tVar i) σ H Q := fun v ev r => by
        cases d <;> first | exact h.elim | skip
        · obtain ⟨rfl, hz⟩ := r.str
          exact .inr (.inr ⟨_, ev, _, rfl, h _ H Same.refl fun O' H' _ st _ => str_it hz⟩)
        · have out : ∀ p xs, v = .ref p → RpAll X.K O H xs _ → (∀ O' H', Same H0 H' → Step O H O' H' → Rd H' p (.lst xs)) → Rd H p (.lst xs) → wSeq X.K (tVar i) σ H Q := fun p xs ep h2 hr h1 => by
            subst ep
            exact .inl ⟨_, ev, p, rfl, ⟨xs, .inl h1⟩, h _ H Same.refl fun O' H' ss st _ => list_it' h2 st (hr O' H' ss st)⟩
          rcases r with r | ⟨p, rfl, xs, h1, h2⟩
          · cases r with
            | lst h1 h2 => exact out _ _ rfl h2 (fun O' H' _ st => (ge_rd st.ge _ _ h1.1 h1.2).2) h1.2
          · exact out p xs rfl h2 (fun O' H' ss _ => Rd.same ss h1) (Rd.same S.keep h1)
        · obtain ⟨p, xs, rfl, h1, h2⟩ := r.tup
          exact .inr (.inl ⟨_, ev, p, rfl, ⟨xs, .inl h1.2⟩, h _ H Same.refl fun O' H' _ st _ => tup_it h2 st (ge_rd st.ge _ _ h1.1 h1.2).2⟩)
      by_cases hb : i ∈ B
      · obtain ⟨v, ev, r⟩ := S.bor i d er ho hb
        exact fin v ev r
      · obtain ⟨v, ev, r⟩ := S.fz i d er ho hb
        exact fin v ev (.inl r)
theorem PIs.c {g : Env → R (List D)} (h : PIs X W B Ω tg e g) : PIc X W B Ω tg e g := PI.imp h fun σ H Q ⟨H0, O0, O, ρ, S, h⟩ => by
  refine ⟨H0, O0, O, ρ, S, ?_⟩
  cases q : g ρ with
  | stuck => rw [q] at h; exact h
  | exc n => rw [q] at h; exact h
  | ok ds =>
    rw [q] at h
    exact fun J H1 s i => h J H1 s fun O' H' ss st ht => i O' H' (Same.tr (Same.tr S.keep s) ss) st ht
/-- range -/
def rngL (lo : Int) (n : Nat) : List D := (List.range n).map fun (i : Nat) => PyData.int (lo + i)
def rng1 : List D → R (List D)
  | [.int j] => if -(2 ^ 62) ≤ j ∧ j < 2 ^ 62 then .ok (rngL 0 j.toNat) else .stuck
  | _ => .stuck
def rng2 : List D → R (List D)
  | [.int i, .int j] => if -(2 ^ 62) ≤ i ∧ i < 2 ^ 62 ∧ -(2 ^ 62) ≤ j ∧ j < 2 ^ 62 then .ok (rngL i (j - i).toNat) else .stuck
  | _ => .stuck
theorem rng_it {K : PySem.W.Frag} {O' : List Addr} {H' : Hp} (lo : Int) (n : Nat) :
    (∀ (i : Nat) d, (rngL lo n)[i]? = some d → (Itr lo n).go i H' ∧ ∀ x H2, (Itr lo n).yld i H' x H2 → Same H' H2 ∧ Rp K O' H2 x d) ∧ (Itr lo n).stop (rngL lo n).length H' := by
  refine ⟨fun i d e => ?_, by simp [rngL, Itr]⟩
  unfold rngL at e
  rw [List.getElem?_map] at e
  cases q : (List.range n)[i]? with
  | none => rw [q] at e; cases e
  | some j =>
    rw [q] at e; cases e
    obtain ⟨hi, ej⟩ := List.getElem?_eq_some_iff.mp q
    rw [List.getElem_range] at ej
    subst ej
    have hi' : i < n := by simpa using hi
    refine ⟨hi', fun x H2 ⟨e1, e2⟩ => ?_⟩
    subst e1 e2
    exact ⟨Same.refl, .int _⟩
def xRng (f : List D → R (List D)) (gs : Env → R (List D)) : Env → R (List D) := fun ρ => (gs ρ).bind f
theorem pis_range1 {gs : Env → R (List D)} (hg : Gl X "range") (hm : X.mg "range" = none) (ha : PAf X W B Ω [a] gs) (hs : starEach [a] X.env = [(false, eval a X.env)] := by rfl) : PIs X W B Ω tg (.Call (.Name "range" p) [a] [] pos) (xRng rng1 gs) :=
  PI.imp (pi_range1 hg hm ha hs) fun σ H Q ⟨H0, O0, O, ρ, S, h⟩ => ⟨H0, O0, O, ρ, S, Good.bind (f := rng1) h fun ds vs H1 e s1 r1 h1 => by
    unfold rng1 at h1
    split at h1
    · rename_i j
      split at h1
      · rename_i hj
        cases r1 with
        | cons r1 r2 =>
          cases r1; cases r2
          exact ⟨j, rfl, hj.1, hj.2, h1.use fun O' H' _ _ _ => rng_it 0 j.toNat⟩
      · exact h1.elim
    · exact h1.elim⟩
theorem pis_range2 {gs : Env → R (List D)} (hg : Gl X "range") (hm : X.mg "range" = none) (ha : PAf X W B Ω [a, b] gs) (hs : starEach [a, b] X.env = [(false, eval a X.env), (false, eval b X.env)] := by rfl) (hs2 : starEach [b] X.env = [(false, eval b X.env)] := by rfl) :
    PIs X W B Ω tg (.Call (.Name "range" p) [a, b] [] pos) (xRng rng2 gs) :=
  PI.imp (pi_range2 hg hm ha hs hs2) fun σ H Q ⟨H0, O0, O, ρ, S, h⟩ => ⟨H0, O0, O, ρ, S, Good.bind (f := rng2) h fun ds vs H1 e s1 r1 h1 => by
    unfold rng2 at h1
    split at h1
    · rename_i i j
      split at h1
      · rename_i hj
        cases r1 with
        | cons r1 r2 =>
          cases r2 with
          | cons r2 r3 =>
            cases r1; cases r2; cases r3
            exact ⟨i, j, rfl, hj, h1.use fun O' H' _ _ _ => rng_it i (j - i).toNat⟩
      · exact h1.elim
    · exact h1.elim⟩
end
end MV

set_option Elab.async false
set_option linter.all false
set_option maxRecDepth 100000
set_option maxHeartbeats 4000000
namespace MV
open PySem L2

section
variable {X : Cx} {W : WX} {B Ω : List Nat} {k : Nat} {tg iter elt : Expr} {pos p : Pos} {g : TG} {is : List Nat} {bnd : D → Env → Option Env} {gi : Env → R (List D)} {gt : Env → R Bool} {ge : Env → R D}
/-! ### comprehensions -/
/-- what is not raised within -/
def R.in {α : Type} : R α → R α
  | .exc _ => .stuck
  | r => r
def lcL (bnd : D → Env → Option Env) (gt : Env → R Bool) (ge : Env → R D) (ρ : Env) : List D → R (List D)
  | [] => .ok []
  | d :: ds => match bnd d ρ with
    | none => .stuck
    | some ρ' => match gt ρ' with
      | .ok true => match ge ρ' with
        | .ok y => (lcL bnd gt ge ρ ds).bind fun ys => .ok (y :: ys)
        | _ => .stuck
      | .ok false => lcL bnd gt ge ρ ds
      | _ => .stuck
def xLc (ws : List Nat) (gi : Env → R (List D)) (bnd : D → Env → Option Env) (gt : Env → R Bool) (ge : Env → R D) : Env → R D := fun ρ => (gi ρ).bind fun ds => if ds.length ≤ sizeLine then (lcL bnd gt ge (wipeE ρ ws) ds).bind fun ys => .ok (.list ys) else .stuck
def tYesX : Env → R Bool := fun _ => .ok true
def PTsx (X : Cx) (W : WX) (B Ω : List Nat) (ifs : List Expr) (g : Env → R Bool) : Prop := PTs X ifs (tT X.K X.mg W B Ω g)
theorem PTs_imp {X : Cx} {e : List Expr} {t t' : TT} (h : PTs X e t) (w : ∀ σ H Q, t' σ H Q → t σ H Q) : PTs X e t' := ⟨fun pins s σ H Q I q => h.run pins s σ H Q I (w σ H Q q)⟩
theorem ptsx_nil : PTsx X W B Ω [] tYesX := PTs_imp pts_nil fun σ H Q ⟨H0, O0, O, ρ, S, h⟩ => h.use rfl
theorem ptsx_one {c : Expr} (h : PTx X W B Ω c gt) : PTsx X W B Ω [c] gt := pts_one h
theorem lcL_noexc : ∀ (ds : List D) (ρ : Env) (n : Str), lcL bnd gt ge ρ ds ≠ .exc n
  | [], ρ, n => by simp [lcL]
  | d :: ds, ρ, n => by
    unfold lcL
    split
    · simp
    · split
      · split
        · cases e : lcL bnd gt ge ρ ds with
          | ok ys => simp
          | exc m => exact absurd e (lcL_noexc ds ρ m)
          | stuck => simp
        · simp
      · exact lcL_noexc ds ρ n
      · simp
theorem wipeE_get : ∀ {ws : List Nat} {ρ : Env} {j : Nat} {d : D}, (wipeE ρ ws)[j]? = some (some d) → ρ[j]? = some (some d)
  | [], _, _, _, h => h
  | w :: ws, ρ, j, d, h => by
    unfold wipeE at h
    by_cases hj : w = j
    · subst hj
      by_cases hl : w < (wipeE ρ ws).length
      · rw [List.getElem?_set_self hl] at h; cases h
      · rw [List.getElem?_eq_none (by rw [List.length_set]; omega)] at h; cases h
    · rw [List.getElem?_set_ne hj] at h
      exact wipeE_get h
theorem lc_run {K : PySem.W.Frag} {mg : Str → Option Value} {ws : List Nat} {σ : St} {H : Hp} {Q : VK} (hsub : ∀ i ∈ is, i ∈ ws) (hown : ∀ i ∈ ws, i ∉ Ω)
    (use : TgU K B Ω g is bnd)
    (h : tO K mg W B Ω (xLc ws gi bnd gt ge) σ H Q) : tLc (tIc K mg W B Ω gi) g (tT K mg W0 B Ω gt) (tX K mg W0 B Ω ge) ws σ H Q := by
  obtain ⟨H0, O0, O, ρ, S, h⟩ := h
  refine ⟨H0, O0, O, ρ, S, Good.bind h fun ds J H1 e1 s1 it h1 => ?_⟩
  split at h1
  case isFalse => exact h1.elim
  rename_i hlen
  intro A hA
  have S1 := S.same s1
  cases ez : lcL bnd gt ge (wipeE ρ ws) ds with
  | exc n => exact absurd ez (lcL_noexc ds _ n)
  | stuck => rw [ez] at h1; exact h1.elim
  | ok zs =>
  rw [ez] at h1
  have h1 : Good mg W σ (RelO K O H) H1 (.ok (.list zs)) Q := h1
  have hAO : A ∉ O := fun z => S1.trk A z hA
  have hA0 : H0 A = none := free_back S1.keep hA
  let P : Nat → Hp → Prop := fun i H' => Same H1 H' ∧ Stt K H0 O0 B Ω (A :: O) H' (wipe σ ws) (wipeE ρ ws) ∧ ∃ acc ys rest, H' A = some (.lst acc) ∧ RpAll K (A :: O) H' acc ys ∧ ys.length ≤ i ∧ lcL bnd gt ge (wipeE ρ ws) (ds.drop i) = .ok rest ∧ ys ++ rest = zs
  have p0 : P 0 (upd H1 A (.lst [])) := ⟨same_upd hA, (S1.wipe ws).watch (same_upd hA) hA (by rw [upd_same]; simp), [], [], zs, upd_same, .nil, Nat.le_refl _, by simpa using ez, rfl⟩
  have hno : ∀ (σ' : St), (∀ j ∈ Ω, σ'[j]? = (wipe σ ws)[j]?) → ∀ j ∈ Ω, σ'[j]? = some (some (V.ref A)) → ∀ d, ρ[j]? = some (some d) → False := fun σ' hs j hj e d ed => by
    obtain ⟨q, e', e2, _, _⟩ := S1.ow j d ed hj
    rw [hs j hj, wipe_get, if_neg (fun z => hown j z hj), e'] at e
    cases e
    exact hAO e2
  refine ⟨fun i m H' => m = ds.length - i ∧ i ≤ ds.length ∧ P i H', ⟨ds.length, by omega, Nat.zero_le _, p0⟩, ?_⟩
  rintro i m H' ⟨rfl, hi, ss, SP, acc, ys, rest, hacc, hys, hyl, hrest, hz⟩
  have stp : Step O H1 (A :: O) H' := ⟨Ge.of_same ss, fun a ha => (List.mem_cons.mp ha).elim (fun z => .inr (z ▸ hA)) .inl⟩
  obtain ⟨go, stop⟩ := it (A :: O) H' ss stp SP.trk
  by_cases hlt : i < ds.length
  · have ed : ds[i]? = some ds[i] := List.getElem?_eq_getElem hlt
    obtain ⟨g1, g2⟩ := go i _ ed
    refine .inr ⟨g1, P (i + 1), fun H2 p => ⟨ds.length - (i + 1), by omega, rfl, hlt, p⟩, fun x H2 y => ?_⟩
    obtain ⟨sy, rx⟩ := g2 x H2 y
    have hdrop : ds.drop i = ds[i] :: ds.drop (i + 1) := List.drop_eq_getElem_cons hlt
    rw [hdrop] at hrest
    unfold lcL at hrest
    split at hrest
    · cases hrest
    rename_i ρ' eb
    refine use (SP.same sy) rx eb fun σ' S' hw ho => ?_
    have hw2 : wipe σ' ws = wipe σ ws := by
      rw [hw ws hsub]
      apply List.ext_getElem?
      intro j
      rw [wipe_get, wipe_get, wipe_length]
      split <;> rfl
    refine ⟨hw2, ?_⟩
    split at hrest
    · -- kept
      rename_i egt
      refine ⟨H0, O0, A :: O, ρ', S', ?_⟩
      rw [egt]
      intro b H3 s3 eb3
      have eb3 : b = true := eb3
      subst eb3
      simp only [if_true]
      split at hrest
      · rename_i yv ege
        refine ⟨H0, O0, A :: O, ρ', S'.same s3, ?_⟩
        rw [ege]
        intro yw H4 s4 r4
        cases er : lcL bnd gt ge (wipeE ρ ws) (ds.drop (i + 1)) with
        | exc n => exact absurd er (lcL_noexc _ _ n)
        | stuck => rw [er] at hrest; cases hrest
        | ok rest2 =>
          rw [er] at hrest
          cases hrest
          have s24 := Same.tr (Same.tr sy s3) s4
          have hacc4 : H4 A = some (.lst acc) := s24 A _ hacc
          have hl := hys.length
          refine ⟨acc, hacc4, by omega, fun a o e => ?_, (SP.same s24).chg List.mem_cons_self hA0 (fun j hj d' eρ e => ?_), acc ++ [yw], ys ++ [yv], rest2, upd_same, ?_, by simp; omega, er, by simpa using hz⟩
          · have : a ≠ A := fun z => by rw [z, hA] at e; cases e
            rw [upd_ne this]
            exact s24 a o (ss a o e)
          · exact hno (wipe σ ws) (fun _ _ => rfl) j hj e d' (wipeE_get eρ)
          · have ge2 : Ge (A :: O) H4 (upd H4 A (.lst (acc ++ [yw]))) := fun a u ha e => by rw [upd_ne (fun z => ha (by rw [z]; exact List.mem_cons_self))]; exact e
            exact ((hys.same s24).ge ge2).append (RpAll.one (r4.ge ge2))
      · cases hrest
    · -- left out
      rename_i egt
      refine ⟨H0, O0, A :: O, ρ', S', ?_⟩
      rw [egt]
      intro b H3 s3 eb3
      have eb3 : b = false := eb3
      subst eb3
      have s23 := Same.tr sy s3
      exact ⟨Same.tr ss s23, SP.same s23, acc, ys, rest, s23 A _ hacc, hys.same s23, by omega, hrest, hz⟩
    · cases hrest
  · have e : i = ds.length := by omega
    subst e
    rw [List.drop_length] at hrest
    cases hrest
    rw [List.append_nil] at hz
    subst hz
    refine .inl ⟨stop, h1 _ H' ss ⟨A, rfl, free_back s1 hA, acc, hacc, hys⟩⟩
theorem po_lc {scope : Scope} {own : List (Str × Nat)} {ifs : List Expr} (G : Gd X W k) (hi : PIc X W B Ω tg iter gi) (ok : BlkOk X.N X.env.scope scope own) (u : TgU X.K B Ω g is bnd) (hsub : is.all ((own.map (·.2)).contains ·) = true) (hown : (own.map (·.2)).all (fun i => !Ω.contains i) = true)
    (hg : ∀ (s : Shared) (H : Hp) (C : Addr) (cl : List (Str × Addr)) (fp : List Addr), PG (X.blk s H scope (compEnvC scope cl C X.env) fp) tg g)
    (ht : ∀ (s : Shared) (H : Hp) (C : Addr) (cl : List (Str × Addr)) (fp : List Addr), PTsx (X.blk s H scope (compEnvC scope cl C X.env) fp) W0 B Ω ifs gt)
    (he : ∀ (s : Shared) (H : Hp) (C : Addr) (cl : List (Str × Addr)) (fp : List Addr), PX (X.blk s H scope (compEnvC scope cl C X.env) fp) W0 B Ω elt ge) (hs : ∀ x, foldedSetIterable iter X.env x = pure x := by intro _; rfl) :
    PO X W B Ω (.ListComp elt [⟨tg, iter, ifs, 0⟩] scope pos) (xLc (own.map (·.2)) gi bnd gt ge) :=
  PE.imp (pe_lc (tt := tT X.K X.mg W0 B Ω gt) (te := tX X.K X.mg W0 B Ω ge) G.hc G.nd hi ok hg ht he hs) fun σ H Q h => lc_run (fun i hi => by simpa using List.all_eq_true.mp hsub i hi) (fun i hi => by simpa using List.all_eq_true.mp hown i hi) u h
end
end MV

set_option Elab.async false
set_option linter.all false
set_option maxRecDepth 100000
set_option maxHeartbeats 4000000
namespace MV
open PySem L2

/-! ### statements -/
inductive Out where
  | next (ρ : Env)
  | brk (ρ : Env)
  | cnt (ρ : Env)
  | ret (d : D)
  | exc (n : Str) (ρ : Env)
  | stuck
abbrev YF := Env → Out
section
variable (K : PySem.W.Frag) (mg : Str → Option Value) (W : WX) (fr : Bool) (H0 : Hp) (O0 : List Addr) (B Ωl Ω' : List Nat)
def GoodS (O : List Addr) (H : Hp) (o : Out) (Dn : Ends) : Prop := match o with
  | .next ρ' => ∀ σ' O' H', Step O H O' H' → Stt K H0 O0 B Ω' O' H' σ' ρ' → Dn.nx σ' H'
  | .brk ρ' => ∀ σ' O' H', Step O H O' H' → Stt K H0 O0 B Ωl O' H' σ' ρ' → Dn.bk σ' H'
  | .cnt ρ' => ∀ σ' O' H', Step O H O' H' → Stt K H0 O0 B Ωl O' H' σ' ρ' → Dn.ct σ' H'
  | .ret d => RetG K fr O0 H0 d Dn.rt
  | .exc n ρ' => ∀ C σ' O' H', mg n = some (Value.ref C) → Step O H O' H' → Stt K H0 O0 B [] O' H' σ' ρ' → W (.ref C) none σ' H'
  | .stuck => False
end
def tY (K : PySem.W.Frag) (mg : Str → Option Value) (W : WX) (fr : Bool) (B Ωl Ω Ω' : List Nat) (f : YF) : TS := fun Dn σ H => ∃ H0 O0 O ρ, Stt K H0 O0 B Ω O H σ ρ ∧ GoodS K mg W fr H0 O0 B Ωl Ω' O H (f ρ) Dn
def PY (X : Cx) (W : WX) (fr : Bool) (B Ωl Ω Ω' : List Nat) (st : Stmt) (f : YF) : Prop := PS X st (tY X.K X.mg W fr B Ωl Ω Ω' f)
def PYs (X : Cx) (W : WX) (fr : Bool) (B Ωl Ω Ω' : List Nat) (st : List Stmt) (f : YF) : Prop := PSs X st (tY X.K X.mg W fr B Ωl Ω Ω' f)

section
variable {K : PySem.W.Frag} {mg : Str → Option Value} {W : WX} {fr : Bool} {H0 : Hp} {O0 : List Addr} {B Ωl Ω Ω' Ω2 : List Nat} {O O' : List Addr} {H H' : Hp} {o : Out} {Dn : Ends}
theorem GoodS.step (s : Step O H O' H') (h : GoodS K mg W fr H0 O0 B Ωl Ω' O H o Dn) : GoodS K mg W fr H0 O0 B Ωl Ω' O' H' o Dn := by
  cases o with
  | next ρ => exact fun σ' O2 H2 s2 S => h σ' O2 H2 (s.tr s2) S
  | brk ρ => exact fun σ' O2 H2 s2 S => h σ' O2 H2 (s.tr s2) S
  | cnt ρ => exact fun σ' O2 H2 s2 S => h σ' O2 H2 (s.tr s2) S
  | ret d => exact h
  | exc n ρ => exact fun C σ' O2 H2 m s2 S => h C σ' O2 H2 m (s.tr s2) S
  | stuck => exact h
end
def noB (B Ω : List Nat) : Bool := Ω.all fun i => !B.contains i
theorem noB_of {B Ω : List Nat} (h : noB B Ω = true) : ∀ i ∈ Ω, i ∉ B := fun i hi => by simpa using List.all_eq_true.mp h i hi
section
variable {X : Cx} {W : WX} {fr : Bool} {B Ωl Ω Ω' Ω2 : List Nat} {k : Nat} {st : Stmt} {rest : List Stmt} {e c : Expr} {g : Env → R D} {gt : Env → R Bool} {f f' : YF} {pos p : Pos}
/-- an expression's result, then what follows; an exception leaves -/
def yB {α : Type} (r : R α) (ρ : Env) (f : α → Out) : Out := match r with
  | .ok a => f a
  | .exc n => .exc n ρ
  | .stuck => .stuck
@[simp] theorem yB_ok {α : Type} (a : α) (ρ : Env) (f : α → Out) : yB (.ok a) ρ f = f a := rfl
@[simp] theorem yB_exc {α : Type} (n : Str) (ρ : Env) (f : α → Out) : yB (.exc n) ρ f = .exc n ρ := rfl
@[simp] theorem yB_stuck {α : Type} (ρ : Env) (f : α → Out) : yB .stuck ρ f = .stuck := rfl
theorem goodB {α β : Type} {Rel : Hp → β → α → Prop} {H0 : Hp} {O0 O : List Addr} {H : Hp} {σ : St} {ρ : Env} {r : R α} {ff : α → Out} {Dn : Ends} {Q : β → Hp → Prop} (hB : noB B Ω = true) (S : Stt X.K H0 O0 B Ω O H σ ρ) (h : GoodS X.K X.mg W fr H0 O0 B Ωl Ω' O H (yB r ρ ff) Dn)
    (k : ∀ d v H1, r = .ok d → Same H H1 → Rel H1 v d → GoodS X.K X.mg W fr H0 O0 B Ωl Ω' O H1 (ff d) Dn → Q v H1) : Good X.mg W σ Rel H r Q := by
  cases r with
  | ok d => exact fun v H1 s rr => k d v H1 rfl s rr (GoodS.step (Step.of_same s) h)
  | exc n =>
    intro C H1 m s
    obtain ⟨O', s', S'⟩ := (S.same s).giveAll (noB_of hB)
    exact h C σ O' H1 m ((Step.of_same s).tr s') S'
  | stuck => exact h
def ySeq (f g : YF) : YF := fun ρ => match f ρ with
  | .next ρ' => g ρ'
  | o => o
def yNil : YF := .next
theorem pys_nil : PYs X W fr B Ωl Ω Ω [] yNil := PSs.imp pss_nil fun Dn σ H ⟨H0, O0, O, ρ, S, h⟩ => h σ O H Step.refl S
theorem pys_cons (h1 : PY X W fr B Ωl Ω Ω2 st f) (h2 : PYs X W fr B Ωl Ω2 Ω' rest f') : PYs X W fr B Ωl Ω Ω' (st :: rest) (ySeq f f') := PSs.imp (pss_cons h1 h2) fun Dn σ H ⟨H0, O0, O, ρ, S, h⟩ => by
  refine ⟨H0, O0, O, ρ, S, ?_⟩
  unfold ySeq at h
  cases q : f ρ with
  | next ρ' => rw [q] at h; exact fun σ' O' H' s S' => ⟨H0, O0, O', ρ', S', h.step s⟩
  | brk ρ' => rw [q] at h; exact h
  | cnt ρ' => rw [q] at h; exact h
  | ret d => rw [q] at h; exact h
  | exc n ρ' => rw [q] at h; exact h
  | stuck => rw [q] at h; exact h
theorem pys_one (h1 : PY X W fr B Ωl Ω Ω' st f) : PYs X W fr B Ωl Ω Ω' [st] f := pss_one h1
/-- an own slot is given up ahead of a statement -/
theorem pys_give (i : Nat) (hB : B.contains i = false) (h : PYs X W fr B Ωl (Ω.filter (· ≠ i)) Ω' rest f) : PYs X W fr B Ωl Ω Ω' rest f := PSs.imp h fun Dn σ H ⟨H0, O0, O, ρ, S, h⟩ => by
  obtain ⟨O', s, S'⟩ := S.give i (by simpa using hB)
  exact ⟨H0, O0, O', ρ, S', h.step s⟩
theorem py_give (i : Nat) (hB : B.contains i = false) (h : PY X W fr B Ωl (Ω.filter (· ≠ i)) Ω' st f) : PY X W fr B Ωl Ω Ω' st f := PS.imp h fun Dn σ H ⟨H0, O0, O, ρ, S, h⟩ => by
  obtain ⟨O', s, S'⟩ := S.give i (by simpa using hB)
  exact ⟨H0, O0, O', ρ, S', h.step s⟩
/-- .. behind it -/
theorem pys_lose (i : Nat) (hB : B.contains i = false) (h : PYs X W fr B Ωl Ω Ω' rest f) : PYs X W fr B Ωl Ω (Ω'.filter (· ≠ i)) rest f := PSs.imp h fun Dn σ H ⟨H0, O0, O, ρ, S, h⟩ => by
  refine ⟨H0, O0, O, ρ, S, ?_⟩
  cases q : f ρ with
  | next ρ' =>
    rw [q] at h
    intro σ' O' H' s S'
    obtain ⟨O2, s2, S2⟩ := S'.give i (by simpa using hB)
    exact h σ' O2 H' (s.tr s2) S2
  | brk ρ' => rw [q] at h; exact h
  | cnt ρ' => rw [q] at h; exact h
  | ret d => rw [q] at h; exact h
  | exc n ρ' => rw [q] at h; exact h
  | stuck => rw [q] at h; exact h
theorem pys_giveE (i : Nat) {Ω1 : List Nat} (hB : B.contains i = false) (h : PYs X W fr B Ωl Ω1 Ω' rest f) (eΩ : Ω.filter (· ≠ i) = Ω1 := by rfl) : PYs X W fr B Ωl Ω Ω' rest f := pys_give i hB (eΩ ▸ h)
theorem py_giveE (i : Nat) {Ω1 : List Nat} (hB : B.contains i = false) (h : PY X W fr B Ωl Ω1 Ω' st f) (eΩ : Ω.filter (· ≠ i) = Ω1 := by rfl) : PY X W fr B Ωl Ω Ω' st f := py_give i hB (eΩ ▸ h)
theorem pys_loseE (i : Nat) {Ω1 : List Nat} (hB : B.contains i = false) (h : PYs X W fr B Ωl Ω Ω1 rest f) (eΩ : Ω1.filter (· ≠ i) = Ω' := by rfl) : PYs X W fr B Ωl Ω Ω' rest f := eΩ ▸ pys_lose i hB h
theorem pys_eq {Ω1 : List Nat} (h : PYs X W fr B Ωl Ω Ω1 rest f) (e : Ω1 = Ω' := by rfl) : PYs X W fr B Ωl Ω Ω' rest f := e ▸ h
def sameSet (a b : List Nat) : Bool := a.all (b.contains ·) && b.all (a.contains ·)
theorem Stt.perm {K : PySem.W.Frag} {H0 : Hp} {O0 O : List Addr} {H : Hp} {σ : St} {ρ : Env} (S : Stt K H0 O0 B Ω O H σ ρ) (e : sameSet Ω Ω' = true) : Stt K H0 O0 B Ω' O H σ ρ := by
  unfold sameSet at e
  simp only [Bool.and_eq_true, List.all_eq_true, List.contains_iff_mem] at e
  obtain ⟨e1, e2⟩ := e
  exact ⟨S.keep, S.trk0, S.sub, S.trk, fun i d h1 h2 h3 => S.fz i d h1 (fun z => h2 (e1 i z)) h3, fun i d h1 h2 h3 => S.bor i d h1 (fun z => h2 (e1 i z)) h3, fun i d h1 h2 => S.ow i d h1 (e2 i h2), fun i hi j hj => S.dist i (e2 i hi) j (e2 j hj), S.len⟩
theorem py_perm {Ω1 : List Nat} (h : PY X W fr B Ωl Ω Ω1 st f) (e : sameSet Ω1 Ω' = true := by rfl) : PY X W fr B Ωl Ω Ω' st f := PS.imp h fun Dn σ H ⟨H0, O0, O, ρ, S, h⟩ => by
  refine ⟨H0, O0, O, ρ, S, ?_⟩
  cases q : f ρ with
  | next ρ' => rw [q] at h; exact fun σ' O' H' s S' => h σ' O' H' s (S'.perm e)
  | brk ρ' => rw [q] at h; exact h
  | cnt ρ' => rw [q] at h; exact h
  | ret d => rw [q] at h; exact h
  | exc n ρ' => rw [q] at h; exact h
  | stuck => rw [q] at h; exact h
def yPass : YF := .next
def yBrk : YF := .brk
def yCnt : YF := .cnt
theorem py_pass : PY X W fr B Ωl Ω Ω (.Pass pos) yPass := PS.imp ps_pass fun Dn σ H ⟨H0, O0, O, ρ, S, h⟩ => h σ O H Step.refl S
theorem py_break : PY X W fr B Ω Ω Ω' (.Break pos) yBrk := PS.imp ps_break fun Dn σ H ⟨H0, O0, O, ρ, S, h⟩ => h σ O H Step.refl S
theorem py_continue : PY X W fr B Ω Ω Ω' (.Continue pos) yCnt := PS.imp ps_continue fun Dn σ H ⟨H0, O0, O, ρ, S, h⟩ => h σ O H Step.refl S
def ySet (i : Nat) (g : Env → R D) : YF := fun ρ => yB (g ρ) ρ fun d => .next (ρ.set i (some d))
theorem py_set {i : Nat} {x : Str} {pos' : Pos} (G : Gd X W k) (hB : noB B Ω = true) (hb : B.contains i = false) (hi : X.N[i]? = some x) (hx : Loc X.env.scope x) (he : PX X W B Ω e g) (hs : swapsWith e (some (.Name x pos')) pos.line X.env = pure false := by rfl)
    (hf : X.fn x = true ∨ X.env.scope.names.lookup x = some .local := by first | exact .inl rfl | exact .inr rfl | assumption) (eΩ : Ω.filter (· ≠ i) = Ω' := by rfl) : PY X W fr B Ωl Ω Ω' (.Assign [.Name x pos'] e pos) (ySet i g) :=
  eΩ ▸ PS.imp (ps_set G.nd hi hx he hs hf) fun Dn σ H ⟨H0, O0, O, ρ, S, h⟩ => ⟨H0, O0, O, ρ, S, goodB (ff := fun d => .next (ρ.set i (some d))) hB S h fun d v H1 e1 s1 r1 h1 => h1 _ O H1 Step.refl ((S.same s1).set r1 (by simpa using hb))⟩
theorem own_setO {K : PySem.W.Frag} {H0 : Hp} {O0 O : List Addr} {H H1 : Hp} {σ : St} {ρ : Env} {i : Nat} {v : V} {d : D} (S : Stt K H0 O0 B Ω O H σ ρ) (s : Same H H1) (r : RelO K O H H1 v d) (hb : B.contains i = false) :
    ∃ O', Step O H O' H1 ∧ Stt K H0 O0 B (i :: Ω.filter (· ≠ i)) O' H1 (σ.set i (some v)) (ρ.set i (some d)) := by
  obtain ⟨p, rfl, hp, w⟩ := r
  exact ⟨p :: O, ⟨Ge.of_same s, fun a ha => (List.mem_cons.mp ha).elim (fun z => .inr (by rw [z]; exact hp)) .inl⟩, S.setO s hp w (by simpa using hb)⟩
theorem py_setO {i : Nat} {x : Str} {pos' : Pos} (G : Gd X W k) (hB : noB B Ω = true) (hb : B.contains i = false) (hi : X.N[i]? = some x) (hx : Loc X.env.scope x) (he : PO X W B Ω e g) (hs : swapsWith e (some (.Name x pos')) pos.line X.env = pure false := by rfl)
    (hf : X.fn x = true ∨ X.env.scope.names.lookup x = some .local := by first | exact .inl rfl | exact .inr rfl | assumption) (eΩ : i :: Ω.filter (· ≠ i) = Ω' := by rfl) : PY X W fr B Ωl Ω Ω' (.Assign [.Name x pos'] e pos) (ySet i g) :=
  eΩ ▸ PS.imp (ps_set G.nd hi hx he hs hf) fun Dn σ H ⟨H0, O0, O, ρ, S, h⟩ => ⟨H0, O0, O, ρ, S, by
    unfold ySet at h
    cases q : g ρ with
    | ok d =>
      rw [q] at h
      intro v H1 s1 r1
      obtain ⟨O', st, S'⟩ := own_setO (i := i) S s1 r1 hb
      exact h _ O' H1 st S'
    | exc n =>
      rw [q] at h
      intro C H1 m s
      obtain ⟨O', s', S'⟩ := (S.same s).giveAll (noB_of hB)
      exact h C σ O' H1 m ((Step.of_same s).tr s') S'
    | stuck => rw [q] at h; exact h⟩
/-- name = [..] where the name is no cell -/
theorem py_setLc {i : Nat} {y : Str} {py spos : Pos} {elt tg iter : Expr} {ifs : List Expr} {scope : Scope} {own : List (Str × Nat)} {gi : Env → R (List D)} {ge : Env → R D} {tgg : TG} {is : List Nat} {bnd : D → Env → Option Env} (G : Gd X W k) (hB : noB B Ω = true) (hb : B.contains i = false)
    (hy : X.N[i]? = some y) (hyl : X.env.scope.names.lookup y = some .local) (hsw : swapsWith (.ListComp elt [⟨tg, iter, ifs, 0⟩] scope pos) (some (.Name y py)) spos.line X.env = pure true)
    (hi : PIc X W B Ω tg iter gi) (ok : BlkOk X.N X.env.scope scope own) (u : TgU X.K B Ω tgg is bnd) (hsub : is.all ((own.map (·.2)).contains ·) = true) (hown : (own.map (·.2)).all (fun i => !Ω.contains i) = true)
    (hg : ∀ (s : Shared) (H : Hp) (C : Addr) (cl : List (Str × Addr)) (fp : List Addr), PG (X.blk s H scope (compEnvC scope cl C X.env) fp) tg tgg)
    (ht : ∀ (s : Shared) (H : Hp) (C : Addr) (cl : List (Str × Addr)) (fp : List Addr), PTsx (X.blk s H scope (compEnvC scope cl C X.env) fp) W0 B Ω ifs gt)
    (he : ∀ (s : Shared) (H : Hp) (C : Addr) (cl : List (Str × Addr)) (fp : List Addr), PX (X.blk s H scope (compEnvC scope cl C X.env) fp) W0 B Ω elt ge) (eΩ : i :: Ω.filter (· ≠ i) = Ω' := by rfl) (hs : ∀ x, foldedSetIterable iter X.env x = pure x := by intro _; rfl) :
    PY X W fr B Ωl Ω Ω' (.Assign [.Name y py] (.ListComp elt [⟨tg, iter, ifs, 0⟩] scope pos) spos) (ySet i (xLc (own.map (·.2)) gi bnd gt ge)) :=
  eΩ ▸ PS.imp (ps_setLc (tt := tT X.K X.mg W0 B Ω gt) (te := tX X.K X.mg W0 B Ω ge) G.hc G.nd hy hyl hsw hi ok hg ht he hs) fun Dn σ H ⟨H0, O0, O, ρ, S, h⟩ => by
    show tLc _ _ _ _ _ σ H _
    refine lc_run (fun i hi => by simpa using List.all_eq_true.mp hsub i hi) (fun i hi => by simpa using List.all_eq_true.mp hown i hi) u ⟨H0, O0, O, ρ, S, ?_⟩
    unfold ySet at h
    cases q : xLc (own.map (·.2)) gi bnd gt ge ρ with
    | ok d =>
      rw [q] at h
      intro v H1 s1 r1
      obtain ⟨O', st, S'⟩ := own_setO (i := i) S s1 r1 hb
      exact h _ O' H1 st S'
    | exc n =>
      rw [q] at h
      intro C H1 m s
      obtain ⟨O', s', S'⟩ := (S.same s).giveAll (noB_of hB)
      exact h C σ O' H1 m ((Step.of_same s).tr s') S'
    | stuck => rw [q] at h; exact h
/-- x = y where y is own and never asked again -/
def yMove (i j : Nat) : YF := fun ρ => match ρ[j]? with
  | some (some d) => .next ((ρ.set j none).set i (some d))
  | _ => .stuck
theorem py_move {i j : Nat} {x y : Str} {pos' py : Pos} (G : Gd X W k) (hj : Ω.contains j = true) (hb : B.contains i = false) (hbj : B.contains j = false) (hij : i ≠ j := by decide) (hi : X.N[i]? = some x) (hx : Loc X.env.scope x) (hjn : X.N[j]? = some y) (hv : Vis X.env.scope y)
    (hs : swapsWith (.Name y py) (some (.Name x pos')) pos.line X.env = pure false := by rfl) (hd : (y == ("__debug__" : Str)) = false := by decide) (hcd : (y == ("__classdict__" : Str)) = false := by decide)
    (hf : X.fn x = true ∨ X.env.scope.names.lookup x = some .local := by first | exact .inl rfl | exact .inr rfl | assumption) (eΩ : i :: (Ω.filter (· ≠ i)).filter (· ≠ j) = Ω' := by rfl) : PY X W fr B Ωl Ω Ω' (.Assign [.Name x pos'] (.Name y py) pos) (yMove i j) :=
  eΩ ▸ PS.imp (ps_set G.nd hi hx (pe_var hjn hv hd hcd) hs hf) fun Dn σ H ⟨H0, O0, O, ρ, S, h⟩ => by
    have hj : j ∈ Ω := by simpa using hj
    have hb : i ∉ B := by simpa using hb
    have hbj : j ∉ B := by simpa using hbj
    unfold yMove at h
    cases er : ρ[j]? with
    | none => rw [er] at h; exact h.elim
    | some o =>
      cases o with
      | none => rw [er] at h; exact h.elim
      | some d =>
        rw [er] at h
        obtain ⟨q, e1, e2, e3, e4⟩ := S.ow j d er hj
        refine ⟨.ref q, e1, h _ O H Step.refl ?_⟩
        have m1 : ∀ {m : Nat} {x : D}, ((ρ.set j none).set i (some d))[m]? = some (some x) → m ≠ i → m ≠ j ∧ ρ[m]? = some (some x) := fun {m x} hh hmi => by
          rw [List.getElem?_set_ne (Ne.symm hmi)] at hh
          by_cases hm : j = m
          · subst hm
            obtain ⟨hl, _⟩ := List.getElem?_eq_some_iff.mp er
            rw [List.getElem?_set_self hl] at hh; cases hh
          · rw [List.getElem?_set_ne hm] at hh
            exact ⟨Ne.symm hm, hh⟩
        have mΩ : ∀ m, m ∈ i :: (Ω.filter (· ≠ i)).filter (· ≠ j) → m ≠ i → m ∈ Ω := fun m hm hne => by
          rcases List.mem_cons.mp hm with z | z
          · exact absurd z hne
          · exact (List.mem_filter.mp (List.mem_filter.mp z).1).1
        have nΩ : ∀ m, m ∉ i :: (Ω.filter (· ≠ i)).filter (· ≠ j) → m ≠ j → m ≠ i ∧ m ∉ Ω := fun m hm hne => by
          have h1 : m ≠ i := fun z => hm (by rw [z]; exact List.mem_cons_self)
          exact ⟨h1, fun z => hm (List.mem_cons_of_mem _ (List.mem_filter.mpr ⟨List.mem_filter.mpr ⟨z, by simpa using h1⟩, by simpa using hne⟩))⟩
        have iself : ∀ {x : D}, ((ρ.set j none).set i (some d))[i]? = some (some x) → x = d ∧ i < σ.length := fun {x} hh => by
          obtain ⟨hl, _⟩ := List.getElem?_eq_some_iff.mp hh
          rw [List.getElem?_set_self (by simpa using hl)] at hh
          cases hh
          exact ⟨rfl, by rw [S.len]; simpa using hl⟩
        refine ⟨S.keep, S.trk0, S.sub, S.trk, fun m x h1 h2 h3 => ?_, fun m x h1 h2 h3 => ?_, fun m x h1 h2 => ?_, fun a ha b hb' hne pp da db h1 h2 h3 => ?_, by simp [S.len]⟩
        · have hmi : m ≠ i := fun z => h2 (by rw [z]; exact List.mem_cons_self)
          obtain ⟨hmj, h1⟩ := m1 h1 hmi
          obtain ⟨_, hmΩ⟩ := nΩ m h2 hmj
          rw [List.getElem?_set_ne (Ne.symm hmi)]
          exact S.fz m x h1 hmΩ h3
        · have hmi : m ≠ i := fun z => hb (z ▸ h3)
          obtain ⟨hmj, h1⟩ := m1 h1 hmi
          obtain ⟨_, hmΩ⟩ := nΩ m h2 hmj
          rw [List.getElem?_set_ne (Ne.symm hmi)]
          exact S.bor m x h1 hmΩ h3
        · by_cases hmi : m = i
          · subst hmi
            obtain ⟨rfl, hl⟩ := iself h1
            exact ⟨q, List.getElem?_set_self hl, e2, e3, e4⟩
          · obtain ⟨hmj, h1⟩ := m1 h1 hmi
            rw [List.getElem?_set_ne (Ne.symm hmi)]
            exact S.ow m x h1 (mΩ m h2 hmi)
        · by_cases hai : a = i
          · subst hai
            have hbi : b ≠ a := Ne.symm hne
            obtain ⟨_, hl⟩ := iself h1
            rw [List.getElem?_set_self hl] at h3
            cases h3
            obtain ⟨hbj', h2⟩ := m1 h2 hbi
            rw [List.getElem?_set_ne (Ne.symm hbi)]
            exact S.dist j hj b (mΩ b hb' hbi) (Ne.symm hbj') _ _ _ er h2 e1
          · obtain ⟨haj, k1⟩ := m1 h1 hai
            rw [List.getElem?_set_ne (Ne.symm hai)] at h3
            by_cases hbi : b = i
            · subst hbi
              obtain ⟨_, hl⟩ := iself h2
              rw [List.getElem?_set_self hl]
              intro z; cases z
              exact S.dist a (mΩ a ha hai) j hj haj _ _ _ k1 er h3 e1
            · obtain ⟨_, k2⟩ := m1 h2 hbi
              rw [List.getElem?_set_ne (Ne.symm hbi)]
              exact S.dist a (mΩ a ha hai) b (mΩ b hb' hbi) hne _ _ _ k1 k2 h3
/-- an expression whose value is dropped -/
def yEx (g : Env → R D) : YF := fun ρ => yB (g ρ) ρ fun _ => .next ρ
theorem py_ex (hB : noB B Ω = true) (he : PX X W B Ω e g) (hs : swapsWith e none pos.line X.env = pure false := by rfl) : PY X W fr B Ωl Ω Ω (.Expr e pos) (yEx g) :=
  PS.imp (ps_expr he hs) fun Dn σ H ⟨H0, O0, O, ρ, S, h⟩ => ⟨H0, O0, O, ρ, S, goodB (ff := fun _ => .next ρ) hB S h fun d v H1 e1 s1 r1 h1 => h1 _ O H1 Step.refl (S.same s1)⟩
def yRet (g : Env → R D) : YF := fun ρ => yB (g ρ) ρ .ret
theorem py_ret (hB : noB B Ω = true) (he : PX X W B Ω e g) : PY X W false B Ωl Ω Ω' (.Return (some e) pos) (yRet g) :=
  PS.imp (ps_ret he) fun Dn σ H ⟨H0, O0, O, ρ, S, h⟩ => ⟨H0, O0, O, ρ, S, goodB (ff := .ret) hB S h fun d v H1 e1 s1 r1 h1 => by
    have h1 : RetG X.K false O0 H0 d Dn.rt := h1
    exact h1 v H1 (Same.tr S.keep s1) (r1.sub S.sub)⟩
theorem py_retO (hB : noB B Ω = true) (he : PO X W B Ω e g) : PY X W true B Ωl Ω Ω' (.Return (some e) pos) (yRet g) :=
  PS.imp (ps_ret he) fun Dn σ H ⟨H0, O0, O, ρ, S, h⟩ => ⟨H0, O0, O, ρ, S, goodB (ff := .ret) hB S h fun d v H1 e1 s1 r1 h1 => by
    have h1 : RetG X.K true O0 H0 d Dn.rt := h1
    obtain ⟨p, rfl, hp, w⟩ := r1
    exact h1 _ H1 (Same.tr S.keep s1) ⟨p, rfl, free_back S.keep hp, w.sub fun a ha => (List.mem_cons.mp ha).elim (fun z => by rw [z]; exact List.mem_cons_self) fun z => List.mem_cons_of_mem _ (S.sub a z)⟩⟩
/-- an own name is handed back -/
theorem py_retV {i : Nat} {x : Str} {pos' : Pos} (ho : Ω.contains i = true) (hN : X.N[i]? = some x) (hv : Vis X.env.scope x) (hd : (x == ("__debug__" : Str)) = false := by decide) (hcd : (x == ("__classdict__" : Str)) = false := by decide) : PY X W true B Ωl Ω Ω' (.Return (some (.Name x pos')) pos) (yRet (xVar i)) :=
  PS.imp (ps_ret (pe_var hN hv hd hcd)) fun Dn σ H ⟨H0, O0, O, ρ, S, h⟩ => by
    have ho : i ∈ Ω := by simpa using ho
    unfold yRet xVar at h
    cases er : ρ[i]? with
    | none => rw [er] at h; exact h.elim
    | some o =>
      cases o with
      | none => rw [er] at h; exact h.elim
      | some d =>
        rw [er] at h
        obtain ⟨q, e1, e2, e3, e4⟩ := S.ow i d er ho
        have h : RetG X.K true O0 H0 d Dn.rt := h
        exact ⟨.ref q, e1, h _ H S.keep ⟨q, rfl, e3, e4.sub fun a ha => (List.mem_cons.mp ha).elim (fun z => by rw [z]; exact e2) (S.sub a)⟩⟩
def yRetN : YF := fun _ => .ret .none
theorem py_retN : PY X W false B Ωl Ω Ω' (.Return none pos) yRetN := PS.imp ps_retN fun Dn σ H ⟨H0, O0, O, ρ, S, h⟩ => by
  have h : RetG X.K false O0 H0 .none Dn.rt := h
  exact h _ H S.keep .non
def yIf (gt : Env → R Bool) (f f' : YF) : YF := fun ρ => yB (gt ρ) ρ fun c => if c = true then f ρ else f' ρ
theorem py_if {a b : List Stmt} (hB : noB B Ω = true) (hc : PTx X W B Ω c gt) (ha : PYs X W fr B Ωl Ω Ω' a f) (hb : PYs X W fr B Ωl Ω Ω' b f') : PY X W fr B Ωl Ω Ω' (.If c a b pos) (yIf gt f f') :=
  PS.imp (ps_if hc ha hb) fun Dn σ H ⟨H0, O0, O, ρ, S, h⟩ => ⟨H0, O0, O, ρ, S, goodB (ff := fun c => if c = true then f ρ else f' ρ) hB S h fun d v H1 e1 s1 r1 h1 => by
    have r1 : v = d := r1
    subst r1
    cases v with
    | true => exact ⟨H0, O0, O, ρ, S.same s1, h1⟩
    | false => exact ⟨H0, O0, O, ρ, S.same s1, h1⟩⟩
/-- a, b = e -/
def yUnp (bnd : D → Env → Option Env) (g : Env → R D) : YF := fun ρ => yB (g ρ) ρ fun d => match bnd d ρ with
  | some ρ' => .next ρ'
  | none => .stuck
theorem py_unp {tgg : TG} {is : List Nat} {bnd : D → Env → Option Env} (hB : noB B Ω = true) (u : TgU X.K B Ω tgg is bnd) (hp : PS X st (tAsg (tX X.K X.mg W B Ω g) tgg)) :
    PY X W fr B Ωl Ω Ω st (yUnp bnd g) :=
  PS.imp hp fun Dn σ H ⟨H0, O0, O, ρ, S, h⟩ => ⟨H0, O0, O, ρ, S, goodB (ff := fun d => match bnd d ρ with | some ρ' => .next ρ' | none => .stuck) hB S h fun d v H1 e1 s1 r1 h1 => by
    cases q : bnd d ρ with
    | none => rw [q] at h1; exact h1.elim
    | some ρ' =>
      rw [q] at h1
      exact u (S.same s1) r1 q fun σ' S' _ _ => h1 σ' O H1 Step.refl S'⟩
/-! ### loops -/
def forL (bnd : D → Env → Option Env) (body : YF) : List D → YF
  | [], ρ => .next ρ
  | d :: ds, ρ => match bnd d ρ with
    | none => .stuck
    | some ρ' => match body ρ' with
      | .next ρ2 => forL bnd body ds ρ2
      | .cnt ρ2 => forL bnd body ds ρ2
      | .brk ρ2 => .next ρ2
      | o => o
def yFor (gi : Env → R (List D)) (bnd : D → Env → Option Env) (body : YF) : YF := fun ρ => yB (gi ρ) ρ fun ds => forL bnd body ds ρ
theorem py_for {tg iter : Expr} {body : List Stmt} {gi : Env → R (List D)} {tgg : TG} {is : List Nat} {bnd : D → Env → Option Env} (G : Gd X W k) (hB : noB B Ω = true) (hi : PIs X W B Ω tg iter gi) (u : TgU X.K B Ω tgg is bnd) (hg : PG X tg tgg) (hb : PYs X W fr B Ω Ω Ω body f)
    (hs : ∀ x, foldedSetIterable iter X.env x = pure x := by intro _; rfl) : PY X W fr B Ωl Ω Ω (.For tg iter body [] pos) (yFor gi bnd f) :=
  PS.imp (ps_for G.hp G.hc hi hg hb hs) fun Dn σ H ⟨H0, O0, O, ρ, S, h⟩ => by
    refine ⟨H0, O0, O, ρ, S, goodB (ff := fun ds => forL bnd f ds ρ) hB S h fun ds J H1 e1 s1 it h1 => ?_⟩
    have S1 := S.same s1
    let P : Nat → St → Hp → Prop := fun i σ' H' => ∃ O' ρ', Step O H1 O' H' ∧ Stt X.K H0 O0 B Ω O' H' σ' ρ' ∧ GoodS X.K X.mg W fr H0 O0 B Ωl Ω O' H' (forL bnd f (ds.drop i) ρ') Dn
    refine ⟨fun i m σ' H' => m = ds.length - i ∧ i ≤ ds.length ∧ P i σ' H', ⟨ds.length, by omega, Nat.zero_le _, O, ρ, Step.refl, S1, by simpa using h1⟩, ?_⟩
    rintro i m σ' H' ⟨rfl, hi, O', ρ', st, S', h'⟩
    obtain ⟨go, stop⟩ := it O' H' S'.keep st S'.trk
    by_cases hlt : i < ds.length
    · have ed : ds[i]? = some ds[i] := List.getElem?_eq_getElem hlt
      obtain ⟨g1, g2⟩ := go i _ ed
      refine .inr ⟨g1, P (i + 1), fun σ2 H2 q => ⟨ds.length - (i + 1), by omega, rfl, hlt, q⟩, fun x H2 y => ?_⟩
      obtain ⟨sy, rx⟩ := g2 x H2 y
      have S2 := S'.same sy
      have h2 := GoodS.step (Step.of_same sy) h'
      have st2 := st.tr (Step.of_same (O := O') sy)
      rw [List.drop_eq_getElem_cons hlt] at h2
      unfold forL at h2
      split at h2
      · exact h2.elim
      rename_i ρ2 eb
      refine u S2 rx eb fun σ3 S3 _ _ => ⟨H0, O0, O', ρ2, S3, ?_⟩
      cases q : f ρ2 with
      | next ρ3 => rw [q] at h2; exact fun σ4 O4 H4 s4 S4 => ⟨O4, ρ3, st2.tr s4, S4, h2.step s4⟩
      | cnt ρ3 => rw [q] at h2; exact fun σ4 O4 H4 s4 S4 => ⟨O4, ρ3, st2.tr s4, S4, h2.step s4⟩
      | brk ρ3 => rw [q] at h2; exact fun σ4 O4 H4 s4 S4 => h2 σ4 O4 H4 s4 S4
      | ret d => rw [q] at h2; exact h2
      | exc n ρ3 => rw [q] at h2; exact h2
      | stuck => rw [q] at h2; exact h2
    · have e : i = ds.length := by omega
      subst e
      rw [List.drop_length] at h'
      exact .inl ⟨stop, h' σ' O' H' Step.refl S'⟩
def whL (gt : Env → R Bool) (body : YF) : Nat → YF
  | 0, _ => .stuck
  | n + 1, ρ => yB (gt ρ) ρ fun c => if c = true then (match body ρ with
      | .next ρ2 => whL gt body n ρ2
      | .cnt ρ2 => whL gt body n ρ2
      | .brk ρ2 => .next ρ2
      | o => o) else .next ρ
def yWh (fu : Env → Nat) (gt : Env → R Bool) (body : YF) : YF := fun ρ => whL gt body (fu ρ) ρ
theorem py_while {body : List Stmt} (fu : Env → Nat) (G : Gd X W k) (hB : noB B Ω = true) (hc : PTx X W B Ω c gt) (hb : PYs X W fr B Ω Ω Ω body f) : PY X W fr B Ωl Ω Ω (.While c body [] pos) (yWh fu gt f) :=
  PS.imp (ps_while G.hp hc hb) fun Dn σ H ⟨H0, O0, O, ρ, S, h⟩ => by
    refine ⟨fun m σ' H' => ∃ O' ρ', Step O H O' H' ∧ Stt X.K H0 O0 B Ω O' H' σ' ρ' ∧ GoodS X.K X.mg W fr H0 O0 B Ωl Ω O' H' (whL gt f m ρ') Dn, ⟨fu ρ, O, ρ, Step.refl, S, h⟩, ?_⟩
    rintro m σ' H' ⟨O', ρ', st, S', h'⟩
    cases m with
    | zero => exact h'.elim
    | succ m =>
      unfold whL at h'
      refine ⟨H0, O0, O', ρ', S', goodB (ff := fun c => if c = true then (match f ρ' with | .next ρ2 => whL gt f m ρ2 | .cnt ρ2 => whL gt f m ρ2 | .brk ρ2 => .next ρ2 | o => o) else .next ρ') hB S' h' fun d v H1 e1 s1 r1 h1 => ?_⟩
      have r1 : v = d := r1
      subst r1
      have S1 := S'.same s1
      have st1 := st.tr (Step.of_same (O := O') s1)
      cases v with
      | false => exact h1 σ' O' H1 Step.refl S1
      | true =>
        simp only [if_true] at h1 ⊢
        refine ⟨fun σ2 H2 => ∃ O2 ρ2, Step O H O2 H2 ∧ Stt X.K H0 O0 B Ω O2 H2 σ2 ρ2 ∧ GoodS X.K X.mg W fr H0 O0 B Ωl Ω O2 H2 (whL gt f m ρ2) Dn, fun σ2 H2 q => ⟨m, Nat.lt_succ_self m, q⟩, H0, O0, O', ρ', S1, ?_⟩
        cases q : f ρ' with
        | next ρ3 => rw [q] at h1; exact fun σ4 O4 H4 s4 S4 => ⟨O4, ρ3, st1.tr s4, S4, h1.step s4⟩
        | cnt ρ3 => rw [q] at h1; exact fun σ4 O4 H4 s4 S4 => ⟨O4, ρ3, st1.tr s4, S4, h1.step s4⟩
        | brk ρ3 => rw [q] at h1; exact fun σ4 O4 H4 s4 S4 => h1 σ4 O4 H4 s4 S4
        | ret d => rw [q] at h1; exact h1
        | exc n ρ3 => rw [q] at h1; exact h1
        | stuck => rw [q] at h1; exact h1
/-! ### changes of own lists -/
def tyL {K : PySem.W.Frag} {H : Hp} {p : Addr} {xs : List V} (h : H p = some (.lst xs)) : tyV K "list" (.ref p) H := .inl ⟨rfl, _, .inl (.inl h)⟩
def yApp (i : Nat) (g : Env → R D) : YF := fun ρ => match ρ[i]? with
  | some (some (.list ds)) => yB (g ρ) ρ fun d => if ds.length < sizeLine then .next (ρ.set i (some (.list (ds ++ [d])))) else .stuck
  | _ => .stuck
theorem py_app {i : Nat} (hB : noB B Ω = true) (ho : Ω.contains i = true) (hb : B.contains i = false) (hp : PE X e (tBM X.K "list" rAppend (tVar i) (tCons (tX X.K X.mg W B Ω g) tNil)))
    (hs : swapsWith e none pos.line X.env = pure false := by rfl) : PY X W fr B Ωl Ω Ω (.Expr e pos) (yApp i g) :=
  PS.imp (ps_expr hp hs) fun Dn σ H ⟨H0, O0, O, ρ, S, h⟩ => by
    have ho : i ∈ Ω := by simpa using ho
    have hb : i ∉ B := by simpa using hb
    unfold yApp at h
    split at h
    · rename_i ds er
      obtain ⟨q, e1, e2, e3, xs, e4, e5⟩ := S.ow i _ er ho
      refine ⟨.ref q, e1, tyL e4, H0, O0, O, ρ, S, goodB (ff := fun d => if ds.length < sizeLine then .next (ρ.set i (some (.list (ds ++ [d])))) else .stuck) hB S h fun d v H1 _ s1 r1 h1 => ?_⟩
      split at h1
      · rename_i hz
        have e41 := s1 _ _ e4
        refine ⟨q, xs, v, rfl, rfl, e41, by rw [e5.length]; exact hz, ?_⟩
        have S1 := S.same s1
        have ge : Ge O H1 (upd H1 q (.lst (xs ++ [v]))) := fun a u ha e => by rw [upd_ne (fun z => ha (by rw [z]; exact e2))]; exact e
        obtain ⟨S2, st⟩ := S1.put (o := .lst (xs ++ [v])) (d := .list (ds ++ [d])) ho hb er e1 ⟨_, upd_same, ((e5.same s1).ge ge).append (RpAll.one (r1.ge ge))⟩
        exact h1 _ O _ st S2
      · exact h1.elim
    · exact h.elim
end
end MV

set_option Elab.async false
set_option linter.all false
set_option maxRecDepth 100000
set_option maxHeartbeats 4000000
namespace MV
open PySem L2

/-! ### a def by its mirror -/
def borS (ks : List Bool) : List Nat := (List.range ks.length).filter fun i => ks.getD i false
def runF (n : Nat) (fr : Bool) (body : YF) (ds : List D) : R D := match body (ds.map some ++ List.replicate (n - ds.length) none) with
  | .ret d => .ok d
  | .next _ => if fr = true then .stuck else .ok .none
  | .exc n _ => .exc n
  | _ => .stuck
theorem rpk_len {K : PySem.W.Frag} {O : List Addr} {H : Hp} : ∀ {ks : List Bool} {vs : List V} {ds : List D}, RpK K O H ks vs ds → vs.length = ks.length ∧ ds.length = ks.length
  | [], [], [], _ => ⟨rfl, rfl⟩
  | b :: ks, v :: vs, d :: ds, h => by obtain ⟨h1, h2⟩ := rpk_len h.2; simp [h1, h2]
  | [], v :: vs, _, h => h.elim
  | [], [], d :: ds, h => h.elim
  | b :: ks, [], _, h => h.elim
  | b :: ks, v :: vs, [], h => h.elim
theorem rpk_get {K : PySem.W.Frag} {O : List Addr} {H : Hp} : ∀ {ks : List Bool} {vs : List V} {ds : List D} {i : Nat} {d : D}, RpK K O H ks vs ds → ds[i]? = some d → ∃ v, vs[i]? = some v ∧ (if ks.getD i false = true then Rs K O H H v d else Rp K O H v d)
  | [], [], [], i, d, _, e => by simp at e
  | b :: ks, v :: vs, d :: ds, 0, _, h, e => by simp at e; subst e; exact ⟨v, rfl, by simpa using h.1⟩
  | b :: ks, v :: vs, d :: ds, i + 1, _, h, e => by simpa using rpk_get h.2 (by simpa using e)
  | [], v :: vs, _, _, _, h, _ => h.elim
  | [], [], d :: ds, _, _, h, _ => h.elim
  | b :: ks, [], _, _, _, h, _ => h.elim
  | b :: ks, v :: vs, [], _, _, h, _ => h.elim
theorem start_get {N : List Str} {vs : List V} {i : Nat} {v : V} (h : vs[i]? = some v) : (start N vs)[i]? = some (some v) := by
  obtain ⟨hl, _⟩ := List.getElem?_eq_some_iff.mp h
  unfold L2.start
  rw [List.getElem?_append_left (by simpa using hl), List.getElem?_map, h]; rfl
theorem startE_get {ds : List D} {n i : Nat} {d : D} (h : (ds.map some ++ List.replicate n none)[i]? = some (some d)) : ds[i]? = some d := by
  by_cases hl : i < ds.length
  · rw [List.getElem?_append_left (by simpa using hl), List.getElem?_map] at h
    cases e : ds[i]? with
    | none => rw [e] at h; cases h
    | some x => rw [e] at h; cases h; rfl
  · rw [List.getElem?_append_right (by simpa using hl), List.getElem?_replicate] at h
    split at h <;> cases h
theorem stt_start {K : PySem.W.Frag} {O : List Addr} {H : Hp} {N : List Str} {ks : List Bool} {vs : List V} {ds : List D} (ht : ∀ a ∈ O, H a ≠ none) (h : RpK K O H ks vs ds) : Stt K H O (borS ks) [] O H (start N vs) (ds.map some ++ List.replicate (N.length - ds.length) none) where
  keep := Same.refl
  trk0 := ht
  sub := fun _ h => h
  trk := ht
  fz := fun i d e h1 h2 => by
    have e' := startE_get e
    obtain ⟨v, ev, r⟩ := rpk_get h e'
    refine ⟨v, start_get ev, ?_⟩
    cases q : ks.getD i false with
    | false => rw [q] at r; simpa using r
    | true =>
      obtain ⟨hl, _⟩ := List.getElem?_eq_some_iff.mp e'
      exact absurd (List.mem_filter.mpr ⟨List.mem_range.mpr (by rw [← (rpk_len h).2]; exact hl), q⟩) h2
  bor := fun i d e h1 h2 => by
    have e' := startE_get e
    obtain ⟨v, ev, r⟩ := rpk_get h e'
    refine ⟨v, start_get ev, ?_⟩
    have q : ks.getD i false = true := (List.mem_filter.mp h2).2
    rw [q] at r; simpa using r
  ow := fun i d e h => by simp at h
  dist := fun i h => by simp at h
  len := by
    obtain ⟨h1, h2⟩ := rpk_len h
    unfold L2.start
    simp [h1, h2]
section
variable {P : Program} {w : World} {K : PySem.W.Frag} {mg : Str → Option Value} {base : Heap}
abbrev WD (E : XK) : WX := fun cls d _ H => E cls d H
theorem fn_ok {x qual : Str} {st : Stmt} {f : Addr} {fd : FuncData} {N ps : List Str} {k : Nat} (F : Fun K x qual st f fd) (S : FnScope N ps (defScope st)) (ks : List Bool) (fr : Bool) (body : YF) {Ωl Ω' : List Nat} (hk : ks.length = ps.length)
    (h : ∀ (cdv : Value) (A : Around) (outer : List PySem.Env) (s : Shared) (H : Hp) (E : XK), Gd (cxOf (L2.CX P w) P w K mg base N qual (defScope st) f cdv A outer s H E) (WD E) k →
      PYs (cxOf (L2.CX P w) P w K mg base N qual (defScope st) f cdv A outer s H E) (WD E) fr (borS ks) Ωl [] Ω' (defBody st) body) :
    FnOk P w K mg base (L2.CX P w) (k + 1) f fd ps (spM K mg ks fr (runF N.length fr body)) := by
  refine F.okX S (fun vs H Q E ⟨O, ds, ht, r, _⟩ => by rw [(rpk_len r).1, hk]) fun cdv A outer s H vs Q E hr ⟨O, ds, ht, r, q⟩ => ?_
  refine ⟨_, h cdv A outer s H E ⟨takes_of rfl rfl rfl rfl, passes_of rfl, rfl, S.nd, hr⟩, H, O, O, _, stt_start ht r, ?_⟩
  have hX : (cxOf (L2.CX P w) P w K mg base N qual (defScope st) f cdv A outer s H E).K = K := rfl
  unfold runF at q
  cases e : body (ds.map some ++ List.replicate (N.length - ds.length) none) with
  | next ρ =>
    rw [e] at q
    cases fr with
    | true => exact q.elim
    | false => exact fun σ' O' H' _ S' => (show RetG K false O H .none Q from q) _ H' S'.keep .non
  | ret d => rw [e] at q; exact q
  | exc n ρ =>
    rw [e] at q
    exact fun C σ' O' H' m _ S' => q C H' m S'.keep
  | brk ρ => rw [e] at q; exact q.elim
  | cnt ρ => rw [e] at q; exact q.elim
  | stuck => rw [e] at q; exact q.elim
end
/-! ### the law's end -/
def noLists (K : PySem.W.Frag) : Bool := K.all fun p => !(p.2.cls == .type "list")
theorem lookup_mem {K : PySem.W.Frag} {a : Addr} {o : Obj} (h : K.lookup a = some o) : (a, o) ∈ K := by
  induction K with
  | nil => cases h
  | cons p K ih =>
    rw [List.lookup_cons] at h
    split at h
    · rename_i e
      have e : a = p.1 := by simpa using e
      cases h; rw [e]; exact List.mem_cons_self
    · exact List.mem_cons_of_mem _ (ih h)
theorem rd_of_sq {K : PySem.W.Frag} {H : Hp} {a : Addr} {xs : List V} (hn : noLists K = true) (h : SqL K H a xs) : Rd H a (.lst xs) := by
  rcases h with h | ⟨o, its, n, hl, hc, _⟩
  · exact h
  · have := List.all_eq_true.mp hn (a, o) (lookup_mem hl)
    simp [hc] at this
theorem law_walk {l : PySem.W.OpenLaw} {k : Nat} {q : Program} {loose : List Str} {XP : (Str → Option Value) → Heap → Prop} {YP : World → Heap → Prop} {d : DefRec} {K : Params → PySem.W.Frag} {x : Str} (g : List D → R D)
    (hn : l.most = some 63) (hdf : d.params.defaults = []) (hr : Room k callerA) (hY : ∀ (w : World) (h : Heap), YP w h → (K w.params).In h) (nl : ∀ (w : World) (h : Heap), (K w.params).In h → noLists (K w.params) = true) (hg : ∀ ns : List Int, ns.length ≤ 63 → g [.list (ns.map .int)] = .ok (.bool true))
    (F : ∀ (w : World) (mg : Str → Option Value) (fa : Addr) (h : Heap), (K w.params).In h → h.Ns mainGlobals mg → mg d.name = some (.ref fa) →
      ∃ fd : FuncData, (∀ (s : Shared) (u : Value), BindsTo s fd ⟨[u], []⟩ [(x, u)]) ∧ ∀ base : Heap, (K w.params).In base → base.Ns mainGlobals mg → FnOk l.prog w (K w.params) mg base (L2.CX l.prog w) k fa fd [x] (spM (K w.params) mg [true] false g)) :
    PySem.W.WalkO q loose XP YP l.row.toRowW d [] (fun f vs => PySem.call f vs) := by
  refine L2.walk_of (l := l) (n := 63) (k := k) (x := x) (CX := fun w => L2.CX l.prog w) (K := K)
    (sp := fun w => fun vs H Q E => ∃ a ns, vs = [.ref a] ∧ ns.length ≤ 63 ∧ SqL (K w.params) H a (ns.map V.int) ∧ ∀ H', Q (.bl true) H') hn (by decide) hdf hr hY (fun w mg fa h KX G hmg => ?_)
    (fun w H a ns hl _ hS => ⟨a, ns, rfl, hl, hS, fun _ => rfl⟩) (fun w H s e s' z => by obtain ⟨_, _, _, _, _, _, _, _, _, _, _, _, z⟩ := z; exact z)
  obtain ⟨fd, hb, hF⟩ := F w mg fa h KX G hmg
  refine ⟨fd, hb, fun base k1 k2 => (hF base k1 k2).imp fun vs H Q E ⟨a, ns, e, hl, hS, q⟩ => ?_⟩
  subst e
  refine ⟨[], [.list (ns.map .int)], by simp, ⟨by rw [if_pos rfl]; exact Or.inr ⟨a, rfl, _, rd_of_sq (nl w h KX) hS, ints_rp ns⟩, True.intro⟩, ?_⟩
  rw [hg ns hl]
  intro v H' _ r
  cases r
  exact q H'
end MV

set_option Elab.async false
set_option linter.all false
set_option maxRecDepth 100000
set_option maxHeartbeats 4000000
namespace MV
open PySem L2

/-- a def of the text: where it stands, what it keeps -/
structure DefOk (P : Program) (w : World) (K : PySem.W.Frag) (mg : Str → Option Value) (base : Heap) (nm : Str) (f : Addr) (fd : FuncData) (ps : List Str) (ks : List Bool) (fr : Bool) (g : List D → R D) (j : Nat) : Prop where
  F : FnOk P w K mg base (L2.CX P w) j f fd ps (spM K mg ks fr g)
  m : mg nm = some (.ref f)
  k : PySem.W.keepIn K (.ref f) = true
  b : Binds K fd ps []
section
variable {X : Cx} {W : WX} {B Ω : List Nat} {k : Nat} {a b c e o : Expr} {es : List Expr} {ga gb gc : Env → R D} {gs : Env → R (List D)} {ks : List Bool} {pos p apos : Pos} {nm : Str} {f : Addr} {fd : FuncData} {ps : List Str} {g : List D → R D} {j : Nat}
theorem px_c (G : Gd X W k) (C : DefOk X.prog X.w X.K X.mg X.base nm f fd ps ks false g j) (hj : Nat.ble j k = true) (hg : Gl X nm) (ha : PAk X W B Ω ks (e :: es) gs) (hdb : (nm == ("__debug__" : Str)) = false := by decide) (he : starEach (e :: es) X.env = (false, eval e X.env) :: starEach es X.env := by rfl) (hpl : (backTo pos (starEach es X.env)).any (·.1) = false := by rfl) :
    PX X W B Ω (.Call (.Name nm p) (e :: es) [] pos) (xCall g gs) := px_call G C.F (Nat.le_of_ble_eq_true hj) hg C.m C.k C.b ha hdb he hpl
theorem po_c (G : Gd X W k) (C : DefOk X.prog X.w X.K X.mg X.base nm f fd ps ks true g j) (hj : Nat.ble j k = true) (hg : Gl X nm) (ha : PAk X W B Ω ks (e :: es) gs) (hdb : (nm == ("__debug__" : Str)) = false := by decide) (he : starEach (e :: es) X.env = (false, eval e X.env) :: starEach es X.env := by rfl) (hpl : (backTo pos (starEach es X.env)).any (·.1) = false := by rfl) :
    PO X W B Ω (.Call (.Name nm p) (e :: es) [] pos) (xCall g gs) := po_call G C.F (Nat.le_of_ble_eq_true hj) hg C.m C.k C.b ha hdb he hpl
theorem px_gint {x : Str} {i : Int} (hg : Gl X x) (h : ∃ t, X.mg x = some (.int i t)) (hd : (x == ("__debug__" : Str)) = false := by decide) : PX X W B Ω (.Name x pos) (xC (.int i)) := by
  obtain ⟨t, h⟩ := h
  exact PE.imp (pe_glob (v := .int i) hg h ⟨t, rfl⟩ hd) fun _ _ _ ⟨_, _, _, _, _, h⟩ => h.use (.int i)
theorem px_gstr {x z : Str} (hg : Gl X x) (h : ∃ t, X.mg x = some (.str z t)) (hs : PyData.strOk z = true := by decide +kernel) (hd : (x == ("__debug__" : Str)) = false := by decide) : PX X W B Ω (.Name x pos) (xC (.str z)) := by
  obtain ⟨t, h⟩ := h
  exact PE.imp (pe_glob (v := .str z) hg h ⟨t, rfl⟩ hd) fun _ _ _ ⟨_, _, _, _, _, h⟩ => h.use (.str z hs)

/-! ### zip of two lists, of two tuples -/
def zipD : List D → R (List D)
  | [.list xs, .list ys] => .ok ((xs.zip ys).map fun p => .tuple [p.1, p.2])
  | [.tuple xs, .tuple ys] => .ok ((xs.zip ys).map fun p => .tuple [p.1, p.2])
  | _ => .stuck
def xZip (f : List D → R (List D)) (gs : Env → R (List D)) : Env → R (List D) := fun ρ => (gs ρ).bind f
theorem zip_get {xs ys : List D} {i : Nat} {d : D} (h : ((xs.zip ys).map fun p => PyData.tuple [p.1, p.2])[i]? = some d) : ∃ x y, xs[i]? = some x ∧ ys[i]? = some y ∧ d = .tuple [x, y] := by
  rw [List.getElem?_map] at h
  cases e : (xs.zip ys)[i]? with
  | none => rw [e] at h; cases h
  | some q =>
    rw [e] at h; cases h
    obtain ⟨h1, h2⟩ := List.getElem?_zip_eq_some.mp e
    exact ⟨_, _, h1, h2, rfl⟩
theorem sqL_inj_ok {K : PySem.W.Frag} {H : Hp} {a : Addr} {xs : List V} (h : Rd H a (.lst xs)) : SqL K H a xs := .inl h
theorem pis_zip {elts : List Expr} {kk : Nat} {tpos : Pos} (hg : Gl X "zip") (hm : X.mg "zip" = none) (ha : PAf X W B Ω [a, b] gs)
    (hs : starEach [a, b] X.env = (false, eval a X.env) :: starEach [b] X.env := by rfl) (hpl : (backTo pos (starEach [b] X.env)).any (·.1) = false := by rfl) : PIs X W B Ω (.Tuple elts kk tpos) (.Call (.Name "zip" p) [a, b] [] pos) (xZip zipD gs) :=
  PI.imp (RZ.pi_zipA hg hm ha hs hpl) fun σ H Q ⟨H0, O0, O, ρ, S, h⟩ => ⟨H0, O0, O, ρ, S, Good.bind (f := zipD) h fun ds vs H1 e s1 r1 h1 => by
    unfold zipD at h1
    split at h1
    · rename_i xs ys
      cases r1 with
      | cons r1 r2 =>
        cases r2 with
        | cons r2 r3 =>
          cases r3
          cases r1 with
          | lst a1 a2 =>
            cases r2 with
            | lst b1 b2 =>
              refine ⟨_, _, _, _, rfl, .inl ⟨.inl a1.2, .inl b1.2, h1.use fun O' H' _ st ht => ?_⟩⟩
              have ra := (ge_rd st.ge _ _ a1.1 a1.2).2
              have rb := (ge_rd st.ge _ _ b1.1 b1.2).2
              refine ⟨fun i d ed => ?_, _, _, .inl ra, .inl rb, ?_⟩
              · obtain ⟨x, y, ex, ey, rfl⟩ := zip_get ed
                obtain ⟨v, ev, rv⟩ := a2.get ex
                obtain ⟨u, eu, ru⟩ := b2.get ey
                refine ⟨⟨_, _, v, u, .inl ra, .inl rb, ev, eu⟩, fun x' H2 ⟨T, v', u', e1, e2, e3, e4, e5⟩ => ?_⟩
                have k1 := e4 _ (.inl ra)
                have k2 := e5 _ (.inl rb)
                rw [ev] at k1; cases k1
                rw [eu] at k2; cases k2
                subst e1 e3
                exact ⟨same_upd e2, new_tup ht e2 (.cons (rv.step st) (.cons (ru.step st) .nil))⟩
              · rw [List.length_map, List.length_zip, a2.length, b2.length]; omega
    · rename_i xs ys
      cases r1 with
      | cons r1 r2 =>
        cases r2 with
        | cons r2 r3 =>
          cases r3
          cases r1 with
          | tup a1 a2 =>
            cases r2 with
            | tup b1 b2 =>
              refine ⟨_, _, _, _, rfl, .inr ⟨.inl a1.2, .inl b1.2, h1.use fun O' H' _ st ht => ?_⟩⟩
              have ra := (ge_rd st.ge _ _ a1.1 a1.2).2
              have rb := (ge_rd st.ge _ _ b1.1 b1.2).2
              refine ⟨fun i d ed => ?_, _, _, .inl ra, .inl rb, ?_⟩
              · obtain ⟨x, y, ex, ey, rfl⟩ := zip_get ed
                obtain ⟨v, ev, rv⟩ := a2.get ex
                obtain ⟨u, eu, ru⟩ := b2.get ey
                refine ⟨⟨_, _, v, u, .inl ra, .inl rb, ev, eu⟩, fun x' H2 ⟨T, v', u', e1, e2, e3, e4, e5⟩ => ?_⟩
                have k1 := e4 _ (.inl ra)
                have k2 := e5 _ (.inl rb)
                rw [ev] at k1; cases k1
                rw [eu] at k2; cases k2
                subst e1 e3
                exact ⟨same_upd e2, new_tup ht e2 (.cons (rv.step st) (.cons (ru.step st) .nil))⟩
              · rw [List.length_map, List.length_zip, a2.length, b2.length]; omega
    · exact h1.elim⟩

/-! ### methods of texts -/
def m0D (f : D → R D) (g : Env → R D) : Env → R D := x1 f g
def upperD : D → R D
  | .str z => okIf (decide (z.length ≤ 5592405) && PyData.strOk (Txt.upper z)) (.str (Txt.upper z))
  | _ => .stuck
theorem px_upper (ho : PX X W B Ω o ga) (hbase : attributeBase o "upper" X.env (eval o X.env) = eval o X.env := by rfl) (hline : (apos.endLine == pos.line) = true := by rfl) : PX X W B Ω (.Call (.Attribute o "upper" apos) [] [] pos) (x1 upperD ga) :=
  PE.imp (pe_upper ho hbase hline) fun σ H Q ⟨H0, O0, O, ρ, S, h⟩ => ⟨H0, O0, O, ρ, S, Good.bind (f := upperD) h fun d v H1 e s1 r1 h1 => by
    cases d <;> first | exact h1.elim | skip
    cases r1
    obtain ⟨z, ez⟩ := h1.ok_of fun n hn => by simp [upperD] at hn
    rw [ez] at h1
    obtain ⟨hz, rfl⟩ := okIf_ok ez
    simp only [Bool.and_eq_true, decide_eq_true_eq] at hz
    exact ⟨⟨_, rfl⟩, _, rfl, rfl, hz.1, h1.use (.str _ hz.2)⟩⟩
def strsOf : List D → Option (List Str)
  | [] => some []
  | .str i :: ds => (strsOf ds).map (i :: ·)
  | _ :: _ => none
@[simp] theorem strsOf_map (ns : List Str) : strsOf (ns.map .str) = some ns := by
  induction ns with
  | nil => rfl
  | cons n ns ih => simp [strsOf, ih]
theorem strsOf_eq : ∀ {ds : List D} {ns : List Str}, strsOf ds = some ns → ds = ns.map .str
  | [], ns, h => by simp [strsOf] at h; subst h; rfl
  | d :: ds, ns, h => by
    cases d <;> simp only [strsOf] at h <;> try cases h
    obtain ⟨ms, e, rfl⟩ := Option.map_eq_some_iff.mp h
    rw [strsOf_eq e]; rfl
theorem rp_strs {K : PySem.W.Frag} {O : List Addr} {H : Hp} : ∀ {ns : List Str} {vs : List V}, RpAll K O H vs (ns.map .str) → vs = ns.map .str ∧ ∀ z ∈ ns, PyData.strOk z = true
  | [], vs, h => by cases h; exact ⟨rfl, by simp⟩
  | n :: ns, vs, h => by
    cases h with
    | cons h1 h2 =>
      cases h1 with
      | str _ hs =>
        obtain ⟨e, q⟩ := rp_strs h2
        exact ⟨by rw [e]; rfl, fun z hz => (List.mem_cons.mp hz).elim (fun e => e ▸ hs) (q z)⟩
def joinS (a : Str) : D → R D
  | .list ds => match strsOf ds with
    | some ys => okIf (decide ((ys.map (·.length)).sum + ys.length * a.length ≤ 16777216) && PyData.strOk (Txt.join a ys)) (.str (Txt.join a ys))
    | none => .stuck
  | _ => .stuck
/-- a method of a text with one argument -/
def xM1 (f : Str → D → R D) (ga gb : Env → R D) : Env → R D := fun ρ => (ga ρ).bind fun x => match x with
  | .str z => (gb ρ).bind (f z)
  | _ => .stuck
theorem m1_run {r : V → List V → Hp → VK → Prop} {f : Str → D → R D} (hn : ∀ z y n, f z y ≠ .exc n) (hr : ∀ (O : List Addr) (H : Hp) (z : Str) (u : V) (y d : D) (Q : VK), (∀ a ∈ O, H a ≠ none) → PyData.strOk z = true → Rs X.K O H H u y → f z y = .ok d → (∀ v H', Same H H' → Rp X.K O H' v d → Q v H') → r (.str z) [u] H Q)
    {σ : St} {H : Hp} {Q : VK} (h : tX X.K X.mg W B Ω (xM1 f ga gb) σ H Q) : tM1 r (tX X.K X.mg W B Ω ga) (tB X.K X.mg W B Ω gb) σ H Q := by
  obtain ⟨H0, O0, O, ρ, S, h⟩ := h
  refine ⟨H0, O0, O, ρ, S, Good.bind h fun d v H1 e1 s1 r1 h1 => ?_⟩
  cases d <;> first | exact h1.elim | skip
  cases r1 with
  | str _ hz =>
    refine ⟨⟨_, rfl⟩, H0, O0, O, ρ, S.same s1, Good.bind h1 fun y u H2 e2 s2 r2 h2 => ?_⟩
    obtain ⟨w, ew⟩ := h2.ok_of (hn _ _)
    rw [ew] at h2
    exact hr O H2 _ u y w Q ((S.same s1).same s2).trk hz r2 ew h2
theorem px_join (ho : PX X W B Ω o ga) (he : PB X W B Ω e gb) (hs : starEach [e] X.env = [(false, eval e X.env)] := by rfl) (hbase : attributeBase o "join" X.env (eval o X.env) = eval o X.env := by rfl) (hline : (apos.endLine == pos.line) = true := by rfl) :
    PX X W B Ω (.Call (.Attribute o "join" apos) [e] [] pos) (xM1 joinS ga gb) :=
  PE.imp (pe_join ho he hs hbase hline) fun σ H Q h => m1_run (f := joinS) (fun z y n => by cases y <;> simp only [joinS] <;> (try split) <;> simp) (fun O H z u y d Q ht hz hy e q => by
    cases y <;> simp only [joinS] at e <;> try cases e
    split at e
    · rename_i ys hys
      obtain ⟨c, rfl⟩ := okIf_ok e
      simp only [Bool.and_eq_true, decide_eq_true_eq] at c
      obtain rfl := strsOf_eq hys
      obtain ⟨p, xs, rfl, q1, q2⟩ := hy.lst
      obtain ⟨rfl, _⟩ := rp_strs q2
      exact ⟨_, _, _, rfl, rfl, .inl (.inl q1), c.1, q _ H Same.refl (.str _ c.2)⟩
    · cases e) h
/-! ### own lists changed -/
def ySub (i : Nat) (gi ge : Env → R D) : YF := fun ρ => yB (ge ρ) ρ fun d => match ρ[i]? with
  | some (some (.list ds)) => yB (gi ρ) ρ fun j => match j with
    | .int j => match ixN ds.length j with
      | some m => .next (ρ.set i (some (.list (ds.set m d))))
      | none => .stuck
    | _ => .stuck
  | _ => .stuck
theorem py_sub {fr : Bool} {Ωl : List Nat} {i : Nat} {x : Str} {xpos spos pos : Pos} {ix : Expr} {gi ge : Env → R D} (hB : noB B Ω = true) (ho : Ω.contains i = true) (hb : B.contains i = false)
    (hp : PS X (.Assign [.Subscript (.Name x xpos) ix spos] e pos) (tAsg (tX X.K X.mg W B Ω ge) (gSub (tVar i) (tX X.K X.mg W B Ω gi) rSetL))) :
    PY X W fr B Ωl Ω Ω (.Assign [.Subscript (.Name x xpos) ix spos] e pos) (ySub i gi ge) :=
  PS.imp hp fun Dn σ H ⟨H0, O0, O, ρ, S, h⟩ => ⟨H0, O0, O, ρ, S, goodB hB S h fun d v H1 e1 s1 r1 h1 => by
    have ho : i ∈ Ω := by simpa using ho
    have hb : i ∉ B := by simpa using hb
    have S1 := S.same s1
    split at h1
    · rename_i ds er
      obtain ⟨q, e1, e2, e3, xs, e4, e5⟩ := S1.ow i _ er ho
      refine ⟨.ref q, e1, H0, O0, O, ρ, S1, goodB hB S1 h1 fun jd jv H2 ej s2 r2 h2 => ?_⟩
      cases jd <;> first | exact h2.elim | skip
      rename_i jj
      cases r2
      have h2 : GoodS X.K X.mg W fr H0 O0 B Ωl Ω O H2 (match ixN ds.length jj with | some m => .next (ρ.set i (some (.list (ds.set m d)))) | none => .stuck) Dn := h2
      cases hm : ixN ds.length jj with
      | some m =>
        rw [hm] at h2
        have e42 := s2 _ _ e4
        refine ⟨q, xs, _, m, rfl, rfl, e42, by rw [e5.length]; exact hm, ?_⟩
        have S2 := S1.same s2
        have ge : Ge O H2 (upd H2 q (.lst (xs.set m v))) := fun a u ha e => by rw [upd_ne (fun z => ha (by rw [z]; exact e2))]; exact e
        obtain ⟨S3, st⟩ := S2.put (o := .lst (xs.set m v)) (d := .list (ds.set m d)) ho hb er e1 ⟨_, upd_same, ((e5.same s2).ge ge).set m ((r1.same s2).ge ge)⟩
        exact h2 _ O _ st S3
      | none => rw [hm] at h2; exact h2.elim
    · exact h1.elim⟩
end
end MV

set_option Elab.async false
set_option linter.all false
set_option maxRecDepth 100000
set_option maxHeartbeats 4000000
namespace MV
open PySem L2
/-! ### reckoning with mirrors -/
def Out.seq (o : Out) (g : YF) : Out := match o with
  | .next ρ' => g ρ'
  | o => o
section
variable {f g : YF} {ρ ρ' : Env} {d e : D} {n : Str} {gt ta tb : Env → R Bool} {ga gb gc : Env → R D} {gs : Env → R (List D)} {i : Nat}
@[simp] theorem Out.seq_next : (Out.next ρ').seq g = g ρ' := (rfl)
@[simp] theorem Out.seq_ret : (Out.ret d).seq g = .ret d := (rfl)
@[simp] theorem Out.seq_brk : (Out.brk ρ').seq g = .brk ρ' := (rfl)
@[simp] theorem Out.seq_cnt : (Out.cnt ρ').seq g = .cnt ρ' := (rfl)
@[simp] theorem Out.seq_exc : (Out.exc n ρ').seq g = .exc n ρ' := (rfl)
@[simp] theorem Out.seq_stuck : (Out.stuck).seq g = .stuck := (rfl)
@[simp] theorem ySeq_e : ySeq f g ρ = (f ρ).seq g := by unfold ySeq Out.seq; rfl
@[simp] theorem yNil_e : yNil ρ = .next ρ := (rfl)
@[simp] theorem yPass_e : yPass ρ = .next ρ := (rfl)
@[simp] theorem yBrk_e : yBrk ρ = .brk ρ := (rfl)
@[simp] theorem yCnt_e : yCnt ρ = .cnt ρ := (rfl)
@[simp] theorem ySet_e : ySet i ga ρ = yB (ga ρ) ρ fun d => .next (ρ.set i (some d)) := (rfl)
@[simp] theorem yEx_e : yEx ga ρ = yB (ga ρ) ρ fun _ => .next ρ := (rfl)
@[simp] theorem yRet_e : yRet ga ρ = yB (ga ρ) ρ .ret := (rfl)
@[simp] theorem yRetN_e : yRetN ρ = .ret .none := (rfl)
@[simp] theorem yIf_e : yIf gt f g ρ = yB (gt ρ) ρ fun c => if c = true then f ρ else g ρ := (rfl)
@[simp] theorem yUnp_e {bnd : D → Env → Option Env} : yUnp bnd ga ρ = yB (ga ρ) ρ fun d => match bnd d ρ with | some ρ' => .next ρ' | none => .stuck := (rfl)
@[simp] theorem yFor_e {gi : Env → R (List D)} {bnd : D → Env → Option Env} : yFor gi bnd f ρ = yB (gi ρ) ρ fun ds => forL bnd f ds ρ := (rfl)
@[simp] theorem bName_e : bName i d ρ = some (ρ.set i (some d)) := (rfl)
@[simp] theorem bTup_e {is : List Nat} {ds : List D} : bTup is (.tuple ds) ρ = setAll ρ is ds := (rfl)
@[simp] theorem setAll_nil : setAll ρ [] [] = some ρ := (rfl)
@[simp] theorem setAll_cons {is : List Nat} {ds : List D} : setAll ρ (i :: is) (d :: ds) = setAll (ρ.set i (some d)) is ds := (rfl)
@[simp] theorem xVar_e : xVar i ρ = match ρ[i]? with | some (some d) => .ok d | _ => .stuck := (rfl)
@[simp] theorem xC_e : xC d ρ = .ok d := (rfl)
@[simp] theorem x1_e {h : D → R D} : x1 h ga ρ = (ga ρ).bind h := (rfl)
@[simp] theorem x2_e {h : D → D → R D} : x2 h ga gb ρ = (ga ρ).bind fun x => (gb ρ).bind fun y => h x y := (rfl)
@[simp] theorem x3_e {h h' : D → D → R D} : x3 h h' ga gb gc ρ = (ga ρ).bind fun x => (gb ρ).bind fun y => (h x y).bind fun z => match z with | .bool true => (gc ρ).bind fun w => h' y w | .bool false => .ok (.bool false) | _ => .stuck := (rfl)
@[simp] theorem xT_e : xT ga ρ = (ga ρ).bind asB := (rfl)
@[simp] theorem asB_e {b : Bool} : asB (.bool b) = .ok b := (rfl)
@[simp] theorem bAnd_e : bAnd ta tb ρ = (ta ρ).bind fun c => if c = true then tb ρ else .ok false := (rfl)
@[simp] theorem bOr_e : bOr ta tb ρ = (ta ρ).bind fun c => if c = true then .ok true else tb ρ := (rfl)
@[simp] theorem bNot_e : bNot ta ρ = (ta ρ).bind fun c => .ok (!c) := (rfl)
@[simp] theorem xAnd_e : xAnd ga gb ρ = (ga ρ).bind fun x => match x with | .bool true => gb ρ | .bool false => .ok (.bool false) | _ => .stuck := (rfl)
@[simp] theorem xOr_e : xOr ga gb ρ = (ga ρ).bind fun x => match x with | .bool true => .ok (.bool true) | .bool false => gb ρ | _ => .stuck := (rfl)
@[simp] theorem xIf_e : xIf ta ga gb ρ = (ta ρ).bind fun c => if c = true then ga ρ else gb ρ := (rfl)
@[simp] theorem xNoP_e : xNoP ρ = .ok none := (rfl)
@[simp] theorem xP_e : xP ga ρ = (ga ρ).bind asI := (rfl)
@[simp] theorem asI_e {j : Int} : asI (.int j) = .ok (some j) := (rfl)
@[simp] theorem xSl_e {gl gh : Env → R (Option Int)} : xSl ga gl gh ρ = (ga ρ).bind fun x => (gl ρ).bind fun l => (gh ρ).bind fun h => slD x l h := (rfl)
@[simp] theorem xSlL_e {gl gh : Env → R (Option Int)} : xSlL ga gl gh ρ = (ga ρ).bind fun x => (gl ρ).bind fun l => (gh ρ).bind fun h => slL x l h := (rfl)
@[simp] theorem aNil_e : aNil ρ = .ok [] := (rfl)
@[simp] theorem aCons_e : aCons ga gs ρ = (ga ρ).bind fun d => (gs ρ).bind fun ds => .ok (d :: ds) := (rfl)
@[simp] theorem xTup_e : xTup gs ρ = (gs ρ).bind mkTup := (rfl)
@[simp] theorem xLst_e : xLst gs ρ = (gs ρ).bind mkLst := (rfl)
@[simp] theorem xCall_e {h : List D → R D} : xCall h gs ρ = (gs ρ).bind h := (rfl)
@[simp] theorem xSeq_e : xSeq ga ρ = (ga ρ).bind seqD := (rfl)
@[simp] theorem seqD_l {ds : List D} : seqD (.list ds) = .ok ds := (rfl)
@[simp] theorem seqD_t {ds : List D} : seqD (.tuple ds) = .ok ds := (rfl)
@[simp] theorem xRng_e {h : List D → R (List D)} : xRng h gs ρ = (gs ρ).bind h := (rfl)
@[simp] theorem xZip_e {h : List D → R (List D)} : xZip h gs ρ = (gs ρ).bind h := (rfl)
@[simp] theorem xLc_e {ws : List Nat} {gi : Env → R (List D)} {bnd : D → Env → Option Env} : xLc ws gi bnd gt ga ρ = (gi ρ).bind fun ds => if ds.length ≤ sizeLine then (lcL bnd gt ga (wipeE ρ ws) ds).bind fun ys => .ok (.list ys) else .stuck := (rfl)
@[simp] theorem tYesX_e : tYesX ρ = .ok true := (rfl)
@[simp] theorem wipeE_nil : wipeE ρ [] = ρ := (rfl)
@[simp] theorem wipeE_cons {w : Nat} {ws : List Nat} : wipeE ρ (w :: ws) = (wipeE ρ ws).set w none := (rfl)
@[simp] theorem yApp_e : yApp i ga ρ = match ρ[i]? with | some (some (.list ds)) => yB (ga ρ) ρ fun d => if ds.length < sizeLine then .next (ρ.set i (some (.list (ds ++ [d])))) else .stuck | _ => .stuck := (rfl)
@[simp] theorem okIf_t : okIf true d = .ok d := (rfl)
theorem okIf_p {p : Prop} [Decidable p] (h : p) : okIf (decide p) d = .ok d := by rw [decide_eq_true h]; rfl
@[simp] theorem addD_ii {a b : Int} : addD (.int a) (.int b) = .ok (.int (a + b)) := (rfl)
@[simp] theorem subD_ii {a b : Int} : subD (.int a) (.int b) = .ok (.int (a - b)) := (rfl)
@[simp] theorem negD_i {a : Int} : negD (.int a) = .ok (.int (-a)) := (rfl)
@[simp] theorem notD_b {a : Bool} : notD (.bool a) = .ok (.bool (!a)) := (rfl)
theorem addD_ll {a b : List D} (h : a.length + b.length ≤ sizeLine) : addD (.list a) (.list b) = .ok (.list (a ++ b)) := okIf_p h
theorem addD_tt {a b : List D} (h : a.length + b.length ≤ sizeLine) : addD (.tuple a) (.tuple b) = .ok (.tuple (a ++ b)) := okIf_p h
theorem addD_ss {a b : Str} (h : a.length + b.length ≤ sizeLine) : addD (.str a) (.str b) = .ok (.str (a ++ b)) := okIf_p h
@[simp] theorem ltD_ii {a b : Int} : ltD (.int a) (.int b) = .ok (.bool (decide (a < b))) := (rfl)
@[simp] theorem ltD_ss {a b : Str} : ltD (.str a) (.str b) = .ok (.bool (decide (a.cps.toList < b.cps.toList))) := (rfl)
@[simp] theorem leD_ii {a b : Int} : leD (.int a) (.int b) = .ok (.bool (decide (a ≤ b))) := (rfl)
@[simp] theorem gtD_ii {a b : Int} : gtD (.int a) (.int b) = .ok (.bool (decide (b < a))) := (rfl)
@[simp] theorem geD_ii {a b : Int} : geD (.int a) (.int b) = .ok (.bool (decide (b ≤ a))) := (rfl)
@[simp] theorem eqD_ii {a b : Int} : eqD (.int a) (.int b) = .ok (.bool (decide (a = b))) := by simp [eqD, shp, PyData.eqv, Bool.beq_eq_decide_eq]
@[simp] theorem neD_ii {a b : Int} : neD (.int a) (.int b) = .ok (.bool (!decide (a = b))) := by simp [neD, shp, PyData.eqv, Bool.beq_eq_decide_eq]
@[simp] theorem eqD_bb {a b : Bool} : eqD (.bool a) (.bool b) = .ok (.bool (decide (a = b))) := by simp [eqD, shp, PyData.eqv, Bool.beq_eq_decide_eq]
@[simp] theorem neD_bb {a b : Bool} : neD (.bool a) (.bool b) = .ok (.bool (!decide (a = b))) := by simp [neD, shp, PyData.eqv, Bool.beq_eq_decide_eq]
theorem modD_i {a b : Int} (h : 0 < b) : modD (.int a) (.int b) = .ok (.int (a % b)) := by
  simp only [modD]
  rw [Int.fmod_eq_emod_of_nonneg _ (by omega)]
  exact okIf_p (by omega)
theorem fdivD_i {a b : Int} (h : 0 < b) (h2 : b < 1073741824) : fdivD (.int a) (.int b) = .ok (.int (a / b)) := by
  simp only [fdivD]
  rw [Int.fdiv_eq_ediv_of_nonneg _ (by omega)]
  have : (decide (b ≠ 0) && decide (b.natAbs < 1073741824)) = true := by
    simp only [Bool.and_eq_true, decide_eq_true_eq]; omega
  rw [this]; rfl
theorem mulD_l {a b : Int} (h : -(2 ^ 64) < a) (h2 : a < 2 ^ 64) : mulD (.int a) (.int b) = .ok (.int (a * b)) := by
  have : mulOk a b = true := by simp only [mulOk, decide_eq_true h, decide_eq_true h2]; rfl
  simp only [mulD, this]; rfl
theorem mulD_r {a b : Int} (h : -(2 ^ 64) < b) (h2 : b < 2 ^ 64) : mulD (.int a) (.int b) = .ok (.int (a * b)) := by
  have : mulOk a b = true := by simp only [mulOk, decide_eq_true h, decide_eq_true h2]; simp
  simp only [mulD, this]; rfl
theorem powD_i {a b : Int} (h : 0 ≤ b) (h2 : b ≤ 1000000) (h3 : a.natAbs < 2 ^ 64) : powD (.int a) (.int b) = .ok (.int (a ^ b.toNat)) := by
  simp only [powD, decide_eq_true h, decide_eq_true h2, decide_eq_true h3]; rfl
theorem mkTup_ok {ds : List D} (h : ds.length ≤ sizeLine) : mkTup ds = .ok (.tuple ds) := if_pos h
theorem mkLst_ok {ds : List D} (h : ds.length ≤ sizeLine) : mkLst ds = .ok (.list ds) := if_pos h
@[simp] theorem mkTup_0 : mkTup [] = .ok (.tuple []) := (rfl)
@[simp] theorem mkTup_1 {a : D} : mkTup [a] = .ok (.tuple [a]) := (rfl)
@[simp] theorem mkTup_2 {a b : D} : mkTup [a, b] = .ok (.tuple [a, b]) := (rfl)
@[simp] theorem mkTup_3 {a b c : D} : mkTup [a, b, c] = .ok (.tuple [a, b, c]) := (rfl)
@[simp] theorem mkTup_4 {a b c e : D} : mkTup [a, b, c, e] = .ok (.tuple [a, b, c, e]) := (rfl)
@[simp] theorem mkLst_0 : mkLst [] = .ok (.list []) := (rfl)
@[simp] theorem mkLst_1 {a : D} : mkLst [a] = .ok (.list [a]) := (rfl)
@[simp] theorem mkLst_2 {a b : D} : mkLst [a, b] = .ok (.list [a, b]) := (rfl)
@[simp] theorem mkLst_3 {a b c : D} : mkLst [a, b, c] = .ok (.list [a, b, c]) := (rfl)
@[simp] theorem lenF_l {ds : List D} : lenF [.list ds] = .ok (.int ds.length) := (rfl)
@[simp] theorem lenF_t {ds : List D} : lenF [.tuple ds] = .ok (.int ds.length) := (rfl)
theorem lenF_s {z : Str} (h : z.length ≤ sizeLine) : lenF [.str z] = .ok (.int z.length) := okIf_p h
@[simp] theorem sumF_e {ns : List Int} : sumF [.list (ns.map .int)] = .ok (.int ns.sum) := by simp [sumF]
@[simp] theorem minF_e {n : Int} {ns : List Int} : minF [.list ((n :: ns).map .int)] = .ok (.int (ns.foldl min n)) := by simp [minF, intsOf]
@[simp] theorem maxF_e {n : Int} {ns : List Int} : maxF [.list ((n :: ns).map .int)] = .ok (.int (ns.foldl max n)) := by simp [maxF, intsOf]
@[simp] theorem minF_2 {a b : Int} : minF [.int a, .int b] = .ok (.int (min a b)) := (rfl)
@[simp] theorem maxF_2 {a b : Int} : maxF [.int a, .int b] = .ok (.int (max a b)) := (rfl)
@[simp] theorem allF_e {bs : List Bool} : allF [.list (bs.map .bool)] = .ok (.bool (bs.all id)) := by simp [allF]
@[simp] theorem anyF_e {bs : List Bool} : anyF [.list (bs.map .bool)] = .ok (.bool (bs.any id)) := by simp [anyF]
@[simp] theorem tupF_l {ds : List D} : tupF [.list ds] = .ok (.tuple ds) := (rfl)
@[simp] theorem tupF_t {ds : List D} : tupF [.tuple ds] = .ok (.tuple ds) := (rfl)
@[simp] theorem lstF_l {ds : List D} : lstF [.list ds] = .ok (.list ds) := (rfl)
@[simp] theorem lstF_t {ds : List D} : lstF [.tuple ds] = .ok (.list ds) := (rfl)
@[simp] theorem intF_i {a : Int} : intF [.int a] = .ok (.int a) := (rfl)
@[simp] theorem intF_b {a : Bool} : intF [.bool a] = .ok (.int (if a = true then 1 else 0)) := (rfl)
@[simp] theorem sortedF_e {ns : List Int} : sortedF [.list (ns.map .int)] = .ok (.list ((srtI ns).map .int)) := by simp [sortedF]
@[simp] theorem isiF_e {T : String} : isiF T d = .ok (.bool (isiD T d)) := (rfl)
theorem atI_nn {α : Type} {xs : List α} {j : Int} (h : 0 ≤ j) : atI xs j = xs[j.toNat]? := by
  unfold atI ixN
  rw [if_pos h]
  by_cases hl : j < xs.length
  · rw [if_pos hl]; rfl
  · rw [if_neg hl]
    exact (List.getElem?_eq_none (by omega)).symm
theorem ixD_l {ds : List D} {j : Int} (h : 0 ≤ j) (e : ds[j.toNat]? = some d) : ixD (.list ds) (.int j) = .ok d := by simp only [ixD, atI_nn h, e]
theorem ixD_t {ds : List D} {j : Int} (h : 0 ≤ j) (e : ds[j.toNat]? = some d) : ixD (.tuple ds) (.int j) = .ok d := by simp only [ixD, atI_nn h, e]
@[simp] theorem ixD_t0 {a : D} {ds : List D} : ixD (.tuple (a :: ds)) (.int 0) = .ok a := ixD_t (by decide) rfl
@[simp] theorem ixD_t1 {a b : D} {ds : List D} : ixD (.tuple (a :: b :: ds)) (.int 1) = .ok b := ixD_t (by decide) rfl
@[simp] theorem ixD_t2 {a b c : D} {ds : List D} : ixD (.tuple (a :: b :: c :: ds)) (.int 2) = .ok c := ixD_t (by decide) rfl
@[simp] theorem ixD_t3 {a b c e : D} {ds : List D} : ixD (.tuple (a :: b :: c :: e :: ds)) (.int 3) = .ok e := ixD_t (by decide) rfl
@[simp] theorem ixD_l0 {a : D} {ds : List D} : ixD (.list (a :: ds)) (.int 0) = .ok a := ixD_l (by decide) rfl
@[simp] theorem ixD_l1 {a b : D} {ds : List D} : ixD (.list (a :: b :: ds)) (.int 1) = .ok b := ixD_l (by decide) rfl
@[simp] theorem rng1_e {j : Int} (h : -(2 ^ 62) ≤ j ∧ j < 2 ^ 62) : rng1 [.int j] = .ok (rngL 0 j.toNat) := if_pos h
/-! ### loops -/
@[simp] theorem forL_nil {bnd : D → Env → Option Env} : forL bnd f [] ρ = .next ρ := (rfl)
/-- a loop whose turns go on: a fold over what stands behind the slots -/
theorem forL_fold {α S : Type} {bnd : D → Env → Option Env} {body : YF} (enc : α → D) (st : S → Env) (step : S → α → S) : ∀ (xs : List α) (s : S), (∀ x ∈ xs, ∀ s, ∃ ρ', bnd (enc x) (st s) = some ρ' ∧ body ρ' = .next (st (step s x))) →
    forL bnd body (xs.map enc) (st s) = .next (st (xs.foldl step s))
  | [], s, _ => rfl
  | x :: xs, s, h => by
    obtain ⟨ρ', e1, e2⟩ := h x List.mem_cons_self s
    simp only [List.map_cons, forL, e1, e2]
    exact forL_fold enc st step xs _ fun y hy => h y (List.mem_cons_of_mem _ hy)
/-- .. with an invariant -/
theorem forL_foldI {α S : Type} {bnd : D → Env → Option Env} {body : YF} (enc : α → D) (st : S → Env) (step : S → α → S) (I : S → Prop) : ∀ (xs : List α) (s : S), I s → (∀ x ∈ xs, ∀ s, I s → I (step s x) ∧ ∃ ρ', bnd (enc x) (st s) = some ρ' ∧ body ρ' = .next (st (step s x))) →
    forL bnd body (xs.map enc) (st s) = .next (st (xs.foldl step s)) ∧ I (xs.foldl step s)
  | [], s, i, _ => ⟨rfl, i⟩
  | x :: xs, s, i, h => by
    obtain ⟨i', ρ', e1, e2⟩ := h x List.mem_cons_self s i
    simp only [List.map_cons, forL, e1, e2]
    exact forL_foldI enc st step I xs _ i' fun y hy => h y (List.mem_cons_of_mem _ hy)
/-- .. with an invariant over what is taken so far -/
theorem forL_inv {bnd : D → Env → Option Env} {body : YF} (I : List D → Env → Prop) : ∀ (ds pre : List D) (ρ : Env), I pre ρ → (∀ pre d ρ, d ∈ ds → I pre ρ → ∃ ρ' ρ2, bnd d ρ = some ρ' ∧ body ρ' = .next ρ2 ∧ I (pre ++ [d]) ρ2) →
    ∃ ρ2, forL bnd body ds ρ = .next ρ2 ∧ I (pre ++ ds) ρ2
  | [], pre, ρ, i, _ => ⟨ρ, rfl, by simpa using i⟩
  | d :: ds, pre, ρ, i, h => by
    obtain ⟨ρ', ρ2, e1, e2, i2⟩ := h pre d ρ List.mem_cons_self i
    simp only [forL, e1, e2]
    obtain ⟨ρ3, e3, i3⟩ := forL_inv I ds (pre ++ [d]) ρ2 i2 fun p e r hm hi => h p e r (List.mem_cons_of_mem _ hm) hi
    exact ⟨ρ3, e3, by simpa using i3⟩
theorem lcL_map {α : Type} {bnd : D → Env → Option Env} {gt : Env → R Bool} {ge : Env → R D} (enc : α → D) (p : α → Bool) (h : α → D) : ∀ (xs : List α), (∀ x ∈ xs, ∃ ρ', bnd (enc x) ρ = some ρ' ∧ gt ρ' = .ok (p x) ∧ (p x = true → ge ρ' = .ok (h x))) →
    lcL bnd gt ge ρ (xs.map enc) = .ok ((xs.filter p).map h)
  | [], _ => rfl
  | x :: xs, hh => by
    obtain ⟨ρ', e1, e2, e3⟩ := hh x List.mem_cons_self
    have ih := lcL_map enc p h xs fun y hy => hh y (List.mem_cons_of_mem _ hy)
    simp only [List.map_cons, lcL, e1, e2]
    cases q : p x with
    | true => rw [e3 q, ih]; simp [q]
    | false => simp [q, ih]
theorem lcL_all {α : Type} {bnd : D → Env → Option Env} {ge : Env → R D} (enc : α → D) (h : α → D) (xs : List α) (hh : ∀ x ∈ xs, ∃ ρ', bnd (enc x) ρ = some ρ' ∧ ge ρ' = .ok (h x)) :
    lcL bnd tYesX ge ρ (xs.map enc) = .ok (xs.map h) := by
  have := lcL_map (gt := tYesX) enc (fun _ => true) h xs fun x hx => let ⟨ρ', a, b⟩ := hh x hx; ⟨ρ', a, rfl, fun _ => b⟩
  rwa [List.filter_eq_self.mpr (by simp)] at this
theorem runF_ret {n : Nat} {fr : Bool} {body : YF} {ds : List D} (h : body (ds.map some ++ List.replicate (n - ds.length) none) = .ret d) : runF n fr body ds = .ok d := by unfold runF; rw [h]
/-- a list of ints is no longer than it may be -/
theorem small {n : Nat} (h : n ≤ 1000000) : n ≤ sizeLine := by rw [sizeLine_eq]; omega
theorem smallT {n : Nat} (h : n < 1000000) : n < sizeLine := by rw [sizeLine_eq]; omega
theorem shp_all {n : Nat} {ds : List D} (h : ∀ d ∈ ds, shp n d = true) : ds.all (shp n) = true := List.all_eq_true.mpr h
@[simp] theorem shp_ints {n : Nat} {ns : List Int} : (ns.map PyData.int).all (shp n) = true := by
  simp only [List.all_map, List.all_eq_true]
  intro x _; cases n <;> rfl
@[simp] theorem shp_int {n : Nat} {i : Int} : shp n (.int i) = true := by cases n <;> rfl
@[simp] theorem shp_bool {n : Nat} {i : Bool} : shp n (.bool i) = true := by cases n <;> rfl
@[simp] theorem shp_str {n : Nat} {i : Str} : shp n (.str i) = true := by cases n <;> rfl
@[simp] theorem shp_none {n : Nat} : shp n .none = true := by cases n <;> rfl
@[simp] theorem shp_lst {n : Nat} {ds : List D} : shp (n + 1) (.list ds) = ds.all (shp n) := (rfl)
@[simp] theorem shp_tup {n : Nat} {ds : List D} : shp (n + 1) (.tuple ds) = ds.all (shp n) := (rfl)
theorem eqvAll_self : ∀ ds : List D, (∀ d ∈ ds, PyData.eqv d d = true) → PyData.eqvAll ds ds = true
  | [], _ => rfl
  | d :: ds, h => by simp [PyData.eqvAll, h d List.mem_cons_self, eqvAll_self ds fun e he => h e (List.mem_cons_of_mem _ he)]
theorem eqv_self : ∀ (n : Nat) (d : D), shp n d = true → PyData.eqv d d = true
  | n, .none, _ => by simp [PyData.eqv]
  | n, .bool b, _ => by simp [PyData.eqv]
  | n, .int i, _ => by simp [PyData.eqv]
  | n, .str s, _ => by simp [PyData.eqv]
  | n, .dict k, h => by cases n <;> simp [shp] at h
  | 0, .list ds, h => by simp [shp] at h
  | 0, .tuple ds, h => by simp [shp] at h
  | n + 1, .list ds, h => by
    simp only [PyData.eqv]
    exact eqvAll_self ds fun d hd => eqv_self n d (List.all_eq_true.mp h d hd)
  | n + 1, .tuple ds, h => by
    simp only [PyData.eqv]
    exact eqvAll_self ds fun d hd => eqv_self n d (List.all_eq_true.mp h d hd)
theorem eqD_self {d : D} (h : shp 16 d = true) : eqD d d = .ok (.bool true) := by simp only [eqD, h, eqv_self 16 d h]; rfl
theorem neD_self {d : D} (h : shp 16 d = true) : neD d d = .ok (.bool false) := by simp only [neD, h, eqv_self 16 d h]; rfl
end
end MV

set_option Elab.async false
set_option linter.all false
set_option maxRecDepth 100000
set_option maxHeartbeats 4000000
namespace MV
open PySem L2
/-! ### slices, items, sums: more to reckon with -/
def cutG {α : Type} (xs : List α) (lo hi : Option Int) : List α := (xs.drop (HT.sIx xs.length 0 lo)).take (HT.sIx xs.length xs.length hi - HT.sIx xs.length 0 lo)
theorem cutD_eq (ds : List D) (lo hi : Option Int) : cutD ds lo hi = cutG ds lo hi := rfl
theorem cutG_map {α β : Type} (f : α → β) (xs : List α) (lo hi : Option Int) : cutG (xs.map f) lo hi = (cutG xs lo hi).map f := by
  unfold cutG; rw [List.length_map, ← List.map_drop, ← List.map_take]
theorem cutD_map {α : Type} (f : α → D) (xs : List α) (lo hi : Option Int) : cutD (xs.map f) lo hi = (cutG xs lo hi).map f := cutG_map f xs lo hi
theorem sIx_pos {n d : Nat} {v : Int} (h : 0 ≤ v) : HT.sIx n d (some v) = min v.toNat n := by
  show (if v < 0 then (v + (n : Int)).toNat else min v.toNat n) = _
  rw [if_neg (by omega)]
theorem sIx_no {n d : Nat} : HT.sIx n d none = d := rfl
theorem cutG_pp {α : Type} {xs : List α} {a b : Int} (ha : 0 ≤ a) (hb : 0 ≤ b) : cutG xs (some a) (some b) = (xs.drop a.toNat).take (b.toNat - a.toNat) := by
  unfold cutG
  rw [sIx_pos ha, sIx_pos hb]
  apply List.ext_getElem?
  intro i
  rw [List.getElem?_take, List.getElem?_take, List.getElem?_drop, List.getElem?_drop]
  by_cases h1 : a.toNat ≤ xs.length
  · rw [Nat.min_eq_left h1]
    by_cases h2 : i < b.toNat - a.toNat
    · by_cases h3 : i < min b.toNat xs.length - a.toNat
      · rw [if_pos h2, if_pos h3]
      · rw [if_pos h2, if_neg h3, List.getElem?_eq_none (by omega)]
    · rw [if_neg h2, if_neg (by omega)]
  · rw [if_neg (by omega)]
    split
    · rw [List.getElem?_eq_none (by omega)]
    · rfl
theorem cutG_pn {α : Type} {xs : List α} {a : Int} (ha : 0 ≤ a) : cutG xs (some a) none = xs.drop a.toNat := by
  unfold cutG
  rw [sIx_pos ha, sIx_no]
  by_cases h1 : a.toNat ≤ xs.length
  · rw [Nat.min_eq_left h1, ← List.length_drop, List.take_length]
  · rw [Nat.min_eq_right (by omega), List.drop_length, List.drop_eq_nil_of_le (by omega), List.take_nil]
theorem cutG_np {α : Type} {xs : List α} {b : Int} (hb : 0 ≤ b) : cutG xs none (some b) = xs.take b.toNat := by
  unfold cutG
  rw [sIx_pos hb, sIx_no, List.drop_zero, Nat.sub_zero]
  by_cases h1 : b.toNat ≤ xs.length
  · rw [Nat.min_eq_left h1]
  · rw [Nat.min_eq_right (by omega), List.take_length, List.take_of_length_le (by omega)]
theorem cutG_nn {α : Type} {xs : List α} : cutG xs none none = xs := by
  unfold cutG; rw [sIx_no, sIx_no, List.drop_zero, Nat.sub_zero, List.take_length]
theorem cutG_mem {α : Type} {xs : List α} {lo hi : Option Int} {x : α} (h : x ∈ cutG xs lo hi) : x ∈ xs := List.mem_of_mem_drop (List.mem_of_mem_take h)
theorem cutG_len {α : Type} {xs : List α} {lo hi : Option Int} : (cutG xs lo hi).length ≤ xs.length := by
  unfold cutG; rw [List.length_take, List.length_drop]; omega
@[simp] theorem slD_l {ds : List D} {lo hi : Option Int} : slD (.list ds) lo hi = .ok (.list (cutD ds lo hi)) := rfl
@[simp] theorem slD_t {ds : List D} {lo hi : Option Int} : slD (.tuple ds) lo hi = .ok (.tuple (cutD ds lo hi)) := rfl
@[simp] theorem slL_l {ds : List D} {lo hi : Option Int} : slL (.list ds) lo hi = .ok (.list (cutD ds lo hi)) := rfl
theorem perm_sum {xs ys : List Int} (h : xs.Perm ys) : xs.sum = ys.sum := by
  induction h with
  | nil => rfl
  | cons x _ ih => simp [ih]
  | swap x y l => simp; omega
  | trans _ _ a b => exact a.trans b
/-- the item of a list of ints, or 0 -/
def cell (ns : List Int) (k : Nat) : Int := ns.getD k 0
theorem cell_get {ns : List Int} {k : Nat} (h : k < ns.length) : (ns.map PyData.int)[k]? = some (.int (cell ns k)) := by
  rw [List.getElem?_map, List.getElem?_eq_getElem h]
  simp [cell, List.getD_eq_getElem?_getD, List.getElem?_eq_getElem h]
theorem cell_none {ns : List Int} {k : Nat} (h : ns.length ≤ k) : cell ns k = 0 := by
  simp [cell, List.getD_eq_getElem?_getD, List.getElem?_eq_none h]
theorem forL_ixA {α : Type} {bnd : D → Env → Option Env} {body : YF} (enc : α → D) (I : Nat → Env → Prop) (P : Out → Prop) : ∀ (xs : List α) (k : Nat) (ρ : Env), I k ρ →
    (∀ i x ρ, xs[i]? = some x → I (k + i) ρ → ∃ ρ', bnd (enc x) ρ = some ρ' ∧ ((∃ ρ2, (body ρ' = .next ρ2 ∨ body ρ' = .cnt ρ2) ∧ I (k + i + 1) ρ2) ∨ ((∀ ρ2, body ρ' ≠ .next ρ2 ∧ body ρ' ≠ .cnt ρ2 ∧ body ρ' ≠ .brk ρ2) ∧ P (body ρ')))) →
    (∃ ρ2, forL bnd body (xs.map enc) ρ = .next ρ2 ∧ I (k + xs.length) ρ2) ∨ P (forL bnd body (xs.map enc) ρ)
  | [], k, ρ, i, _ => .inl ⟨ρ, rfl, i⟩
  | x :: xs, k, ρ, i, h => by
    obtain ⟨ρ', e1, ⟨ρ2, e2, i2⟩ | ⟨n, p⟩⟩ := h 0 x ρ rfl i
    · have e3 : forL bnd body ((x :: xs).map enc) ρ = forL bnd body (xs.map enc) ρ2 := by
        rcases e2 with e2 | e2 <;> simp only [List.map_cons, forL, e1, e2]
      rw [e3]
      have := forL_ixA enc I P xs (k + 1) ρ2 i2 fun i y ρ hy hi => by
        have := h (i + 1) y ρ (by simpa using hy) (by rw [show k + (i + 1) = k + 1 + i by omega]; exact hi)
        rwa [show k + (i + 1) + 1 = k + 1 + i + 1 by omega] at this
      rwa [show k + 1 + xs.length = k + (x :: xs).length by simp; omega] at this
    · refine .inr ?_
      simp only [List.map_cons, forL, e1]
      cases q : body ρ' with
      | next r => exact absurd q (n r).1
      | cnt r => exact absurd q (n r).2.1
      | brk r => exact absurd q (n r).2.2
      | ret d => rw [q] at p; exact p
      | exc m r => rw [q] at p; exact p
      | stuck => rw [q] at p; exact p
/-- a loop that goes on, by an invariant over the turn -/
theorem forL_ix {α : Type} {bnd : D → Env → Option Env} {body : YF} (enc : α → D) (I : Nat → Env → Prop) (xs : List α) (ρ : Env) (h0 : I 0 ρ)
    (h : ∀ i x ρ, xs[i]? = some x → I i ρ → ∃ ρ' ρ2, bnd (enc x) ρ = some ρ' ∧ (body ρ' = .next ρ2 ∨ body ρ' = .cnt ρ2) ∧ I (i + 1) ρ2) :
    ∃ ρ2, forL bnd body (xs.map enc) ρ = .next ρ2 ∧ I xs.length ρ2 := by
  have := forL_ixA enc I (fun _ => False) xs 0 ρ h0 fun i x ρ hx hi => by
    obtain ⟨ρ', ρ2, a, b, c⟩ := h i x ρ hx (by simpa using hi)
    exact ⟨ρ', a, .inl ⟨ρ2, b, by simpa using c⟩⟩
  simpa using this
/-- .. that may leave with a value -/
theorem forL_ixR {α : Type} {bnd : D → Env → Option Env} {body : YF} (enc : α → D) (I : Nat → Env → Prop) (P : D → Prop) (xs : List α) (ρ : Env) (h0 : I 0 ρ)
    (h : ∀ i x ρ, xs[i]? = some x → I i ρ → ∃ ρ', bnd (enc x) ρ = some ρ' ∧ ((∃ ρ2, (body ρ' = .next ρ2 ∨ body ρ' = .cnt ρ2) ∧ I (i + 1) ρ2) ∨ ∃ d, body ρ' = .ret d ∧ P d)) :
    (∃ ρ2, forL bnd body (xs.map enc) ρ = .next ρ2 ∧ I xs.length ρ2) ∨ ∃ d, forL bnd body (xs.map enc) ρ = .ret d ∧ P d := by
  have := forL_ixA enc I (fun o => ∃ d, o = .ret d ∧ P d) xs 0 ρ h0 fun i x ρ hx hi => by
    obtain ⟨ρ', a, b | ⟨d, e, p⟩⟩ := h i x ρ hx (by simpa using hi)
    · exact ⟨ρ', a, .inl (by simpa using b)⟩
    · exact ⟨ρ', a, .inr ⟨fun r => by rw [e]; simp, d, e, p⟩⟩
  simpa using this
@[simp] theorem shp_ints' {n : Nat} {ns : List Int} : ns.all (shp n ∘ PyData.int) = true := by
  simp only [List.all_eq_true]
  intro x _; cases n <;> rfl
theorem take_succ_map {α β : Type} (f : α → β) {xs : List α} {i : Nat} {x : α} (h : xs[i]? = some x) : (xs.take (i + 1)).map f = (xs.take i).map f ++ [f x] := by
  rw [List.take_add_one, h]; simp
/-- a loop that looks through: it leaves with `d` at the first turn that fails `p` -/
theorem forL_all {α : Type} {bnd : D → Env → Option Env} {body : YF} (enc : α → D) (I : Env → Prop) (p : α → Bool) (d : D) : ∀ (xs : List α) (ρ : Env), I ρ →
    (∀ x ∈ xs, ∀ ρ, I ρ → ∃ ρ', bnd (enc x) ρ = some ρ' ∧ (p x = true → ∃ ρ2, (body ρ' = .next ρ2 ∨ body ρ' = .cnt ρ2) ∧ I ρ2) ∧ (p x = false → body ρ' = .ret d)) →
    (xs.all p = true → ∃ ρ2, forL bnd body (xs.map enc) ρ = .next ρ2 ∧ I ρ2) ∧ (xs.all p = false → forL bnd body (xs.map enc) ρ = .ret d)
  | [], ρ, i, _ => ⟨fun _ => ⟨ρ, rfl, i⟩, fun h => by simp at h⟩
  | x :: xs, ρ, i, h => by
    obtain ⟨ρ', e1, e2, e3⟩ := h x List.mem_cons_self ρ i
    cases hp : p x with
    | false =>
      refine ⟨fun q => by simp [hp] at q, fun _ => ?_⟩
      simp only [List.map_cons, forL, e1, e3 hp]
    | true =>
      obtain ⟨ρ2, e4, i2⟩ := e2 hp
      have e5 : forL bnd body ((x :: xs).map enc) ρ = forL bnd body (xs.map enc) ρ2 := by
        rcases e4 with e4 | e4 <;> simp only [List.map_cons, forL, e1, e4]
      rw [e5]
      have := forL_all enc I p d xs ρ2 i2 fun y hy => h y (List.mem_cons_of_mem _ hy)
      simpa [hp] using this
theorem rng1_n (n : Nat) (h : n ≤ 1000000) : rng1 [.int n] = .ok ((List.range n).map fun (i : Nat) => PyData.int (i : Int)) := by
  rw [rng1_e (by omega)]; simp [rngL]

end MV

set_option Elab.async false
set_option linter.all false
set_option maxRecDepth 100000
set_option maxHeartbeats 4000000
namespace MV
open PySem L2
section
variable {X : Cx} {W : WX} {B Ω : List Nat} {k : Nat} {a b c e o : Expr} {es : List Expr} {ga gb gc : Env → R D} {gs : Env → R (List D)} {pos p apos : Pos}
/-! ### methods of texts -/
theorem px_m1 {id : String} {name : Str} {r : V → List V → Hp → VK → Prop} {f : Str → D → R D} (slot : Slot "str" name id) (ty : typeOf (.builtin id) = pure (.type "method_descriptor")) (rule : MtR X id r)
    (hn : ∀ z y n, f z y ≠ .exc n) (hr : ∀ (O : List Addr) (H : Hp) (z : Str) (u : V) (y d : D) (Q : VK), (∀ a ∈ O, H a ≠ none) → PyData.strOk z = true → Rs X.K O H H u y → f z y = .ok d → (∀ v H', Same H H' → Rp X.K O H' v d → Q v H') → r (.str z) [u] H Q)
    (ho : PX X W B Ω o ga) (he : PB X W B Ω e gb) (hs : starEach [e] X.env = [(false, eval e X.env)] := by rfl) (hbase : attributeBase o name X.env (eval o X.env) = eval o X.env := by rfl) (hline : (apos.endLine == pos.line) = true := by rfl) :
    PX X W B Ω (.Call (.Attribute o name apos) [e] [] pos) (xM1 f ga gb) :=
  PE.imp (pe_m1 slot ty rule ho he hs hbase hline) fun σ H Q h => m1_run hn hr h
def findS (a : Str) : D → R D
  | .str b => .ok (.int (Txt.find a b))
  | _ => .stuck
def startsS (a : Str) : D → R D
  | .str b => .ok (.bool (Txt.startswith a b))
  | _ => .stuck
def zfillS (a : Str) : D → R D
  | .int i => okIf (PadOk i && PyData.strOk (Txt.zfill a i)) (.str (Txt.zfill a i))
  | _ => .stuck
theorem px_find (ho : PX X W B Ω o ga) (he : PB X W B Ω e gb) (hs : starEach [e] X.env = [(false, eval e X.env)] := by rfl) (hbase : attributeBase o "find" X.env (eval o X.env) = eval o X.env := by rfl) (hline : (apos.endLine == pos.line) = true := by rfl) :
    PX X W B Ω (.Call (.Attribute o "find" apos) [e] [] pos) (xM1 findS ga gb) :=
  px_m1 F.slot_str_find F.type_str_find mt_find (fun z y n => by cases y <;> simp [findS]) (fun O H z u y d Q ht hz hy e q => by
    cases y <;> simp only [findS] at e <;> cases e
    obtain ⟨rfl, _⟩ := hy.str
    exact ⟨_, _, rfl, rfl, q _ H Same.refl (.int _)⟩) ho he hs hbase hline
theorem px_starts (ho : PX X W B Ω o ga) (he : PB X W B Ω e gb) (hs : starEach [e] X.env = [(false, eval e X.env)] := by rfl) (hbase : attributeBase o "startswith" X.env (eval o X.env) = eval o X.env := by rfl) (hline : (apos.endLine == pos.line) = true := by rfl) :
    PX X W B Ω (.Call (.Attribute o "startswith" apos) [e] [] pos) (xM1 startsS ga gb) :=
  px_m1 F.slot_str_startswith F.type_str_startswith mt_startswith (fun z y n => by cases y <;> simp [startsS]) (fun O H z u y d Q ht hz hy e q => by
    cases y <;> simp only [startsS] at e <;> cases e
    obtain ⟨rfl, _⟩ := hy.str
    exact ⟨_, _, rfl, rfl, q _ H Same.refl (.bl _)⟩) ho he hs hbase hline
theorem px_zfill (ho : PX X W B Ω o ga) (he : PB X W B Ω e gb) (hs : starEach [e] X.env = [(false, eval e X.env)] := by rfl) (hbase : attributeBase o "zfill" X.env (eval o X.env) = eval o X.env := by rfl) (hline : (apos.endLine == pos.line) = true := by rfl) :
    PX X W B Ω (.Call (.Attribute o "zfill" apos) [e] [] pos) (xM1 zfillS ga gb) :=
  px_m1 F.slot_str_zfill F.type_str_zfill mt_zfill (fun z y n => by cases y <;> simp only [zfillS] <;> (try unfold okIf) <;> (try split) <;> simp) (fun O H z u y d Q ht hz hy e q => by
    cases y <;> simp only [zfillS] at e <;> try cases e
    obtain ⟨c, rfl⟩ := okIf_ok e
    rw [Bool.and_eq_true] at c
    obtain rfl := hy.int
    exact ⟨_, _, rfl, rfl, c.1, q _ H Same.refl (.str _ c.2)⟩) ho he hs hbase hline
/-! ### isinstance with two classes -/
def isi2F (T U : String) : D → R D := fun d => .ok (.bool (isiD T d || isiD U d))
theorem px_isi2 {T U : String} {pT pU p2 : Pos} {x2 : Nat} {nT nU : Str} (hg : Gl X "isinstance") (hm : X.mg "isinstance" = none) (hgT : Gl X nT) (hmT : X.mg nT = none) (hvT : bootBuiltins nT = some (.type T)) (hT : okTy T = true)
    (hgU : Gl X nU) (hmU : X.mg nU = none) (hvU : bootBuiltins nU = some (.type U)) (hU : okTy U = true) (ha : PB X W B Ω a ga)
    (hn : nT ≠ "__name__" := by decide) (hd : (nT == ("__debug__" : Str)) = false := by decide) (hn2 : nU ≠ "__name__" := by decide) (hd2 : (nU == ("__debug__" : Str)) = false := by decide)
    (hs : starEach [a, .Tuple [.Name nT pT, .Name nU pU] x2 p2] X.env = (false, eval a X.env) :: starEach [.Tuple [.Name nT pT, .Name nU pU] x2 p2] X.env := by rfl)
    (hs2 : starEach [.Tuple [.Name nT pT, .Name nU pU] x2 p2] X.env = (false, eval (.Tuple [.Name nT pT, .Name nU pU] x2 p2) X.env) :: starEach [] X.env := by rfl)
    (hs3 : starEach [.Name nT pT, .Name nU pU] X.env = (false, eval (.Name nT pT) X.env) :: starEach [.Name nU pU] X.env := by rfl) (hs4 : starEach [.Name nU pU] X.env = (false, eval (.Name nU pU) X.env) :: starEach [] X.env := by rfl)
    (hpl : (backTo pos (starEach [.Tuple [.Name nT pT, .Name nU pU] x2 p2] X.env)).any (·.1) = false := by rfl) :
    PX X W B Ω (.Call (.Name "isinstance" p) [a, .Tuple [.Name nT pT, .Name nU pU] x2 p2] [] pos) (x1 (isi2F T U) ga) := by
  refine PE.imp (pe_callB call_isiT hg hm (by decide +kernel) (pa_cons ha (pa_cons (pe_tup (pa_cons (pe_bltn (v := .ty T) hgT hmT hvT rfl hn hd) (pa_cons (pe_bltn (v := .ty U) hgU hmU hvU rfl hn2 hd2) pa_nil hs4) hs3)) pa_nil hs2) hs) (by decide) (by decide) hs hpl) fun σ H Q ⟨H0, O0, O, ρ, S, h⟩ => ⟨H0, O0, O, ρ, S, Good.bind (f := isi2F T U) h fun d v H1 e s1 r1 h1 => ?_⟩
  refine ⟨small (by simp), fun q hq => ?_⟩
  have sm := same_upd (o := .tup [V.ty T, V.ty U]) hq
  have r2 : Rs X.K O (upd H1 q (.tup [V.ty T, V.ty U])) (upd H1 q (.tup [V.ty T, V.ty U])) v d := Rs.ge sm (Ge.of_same sm) r1
  have k1 := isi_kit (K := X.K) hT d (by cases d <;> first | trivial | exact r1.dict.elim)
  have k2 := isi_kit (K := X.K) hU d (by cases d <;> first | trivial | exact r1.dict.elim)
  refine ⟨v, q, [.ty T, .ty U], _, [.type T, .type U], isiD T d || isiD U d, rfl, upd_same, .cons (.ty T) (.cons (.ty U) .nil), rs_ty r2, ?_, h1 _ _ sm (.bl _)⟩
  simp only [PySem.W.kitAny, k1, k2]
  cases isiD T d <;> cases isiD U d <;> rfl
end
section
variable {ρ : Env} {ga gb : Env → R D} {z : Str} {y : D}
@[simp] theorem xM1_e {f : Str → D → R D} : xM1 f ga gb ρ = (ga ρ).bind fun x => match x with | .str z => (gb ρ).bind (f z) | _ => .stuck := (rfl)
@[simp] theorem findS_e {a b : Str} : findS a (.str b) = .ok (.int (Txt.find a b)) := (rfl)
@[simp] theorem startsS_e {a b : Str} : startsS a (.str b) = .ok (.bool (Txt.startswith a b)) := (rfl)
@[simp] theorem isi2F_e {T U : String} {d : D} : isi2F T U d = .ok (.bool (isiD T d || isiD U d)) := (rfl)
end
end MV

set_option maxRecDepth 100000
set_option maxHeartbeats 4000000
namespace LK
open PySem L2 MV
def top (i : Nat) : Stmt := PySem.Challenge.pw_cubebook_k02_one_value_ahead.main.body.getD i (.Pass ⟨0, 0, 0, 0⟩)
structure Txt (mg : Str → Option Value) : Prop where
  n_bool : mg "bool" = none
  n_int : mg "int" = none
  n_isinstance : mg "isinstance" = none
  n_len : mg "len" = none
  n_min : mg "min" = none
  n_range : mg "range" = none
abbrev s_is_whole : Stmt := top 1
abbrev N_is_whole : List Str := ["thing"]
theorem sc_is_whole : FnScope N_is_whole ["thing"] (defScope s_is_whole) := ⟨rfl, rfl, rfl, by decide +kernel, rfl, by decide +kernel, by decide +kernel⟩
abbrev s_rank : Stmt := top 3
abbrev N_rank : List Str := ["thing"]
theorem sc_rank : FnScope N_rank ["thing"] (defScope s_rank) := ⟨rfl, rfl, rfl, by decide +kernel, rfl, by decide +kernel, by decide +kernel⟩
abbrev s_value_before : Stmt := top 4
abbrev N_value_before : List Str := ["one", "other"]
theorem sc_value_before : FnScope N_value_before ["one", "other"] (defScope s_value_before) := ⟨rfl, rfl, rfl, by decide +kernel, rfl, by decide +kernel, by decide +kernel⟩
abbrev s__law_cell_at : Stmt := top 6
abbrev N__law_cell_at : List Str := ["_law_script", "_law_k"]
theorem sc__law_cell_at : FnScope N__law_cell_at ["_law_script", "_law_k"] (defScope s__law_cell_at) := ⟨rfl, rfl, rfl, by decide +kernel, rfl, by decide +kernel, by decide +kernel⟩
abbrev s__law_things : Stmt := top 7
abbrev N__law_things : List Str := ["_law_script", "_law_number", "_law_signs", "_law_cell", "_law_word", "_law_k", "_law_at", "_law_other_sign", "_law_longer"]
theorem sc__law_things : FnScope N__law_things ["_law_script"] (defScope s__law_things) := ⟨rfl, rfl, rfl, by decide +kernel, rfl, by decide +kernel, by decide +kernel⟩
abbrev s__law_ahead : Stmt := top 8
abbrev N__law_ahead : List Str := ["_law_one", "_law_other", "_law_signs", "_law_k"]
theorem sc__law_ahead : FnScope N__law_ahead ["_law_one", "_law_other"] (defScope s__law_ahead) := ⟨rfl, rfl, rfl, by decide +kernel, rfl, by decide +kernel, by decide +kernel⟩
abbrev s_law : Stmt := top 9
abbrev N_law : List Str := ["_law_script", "_law_things_here", "_law_one", "_law_other", "_law_found", "_law_back"]
theorem sc_law : FnScope N_law ["_law_script"] (defScope s_law) := ⟨rfl, rfl, rfl, by decide +kernel, rfl, by decide +kernel, by decide +kernel⟩
-- is_whole: thing 0
def m_is_whole : YF := (yRet (xAnd (x1 (isiF "int") (xVar 0)) (x1 notD (x1 (isiF "bool") (xVar 0)))))
def g_is_whole : List D → R D := runF 1 false m_is_whole
-- rank: thing 0
def t_rank_5 : YF := (yRet (xC (.int 2)))
def t_rank_3 : YF := (ySeq (yIf (xT (xCall g_is_whole (aCons (xVar 0) aNil))) (yRet (xC (.int 1))) yNil) t_rank_5)
def m_rank : YF := (ySeq (yIf (xT (x2 isD (xVar 0) (xC .none))) (yRet (xC (.int 0))) yNil) t_rank_3)
def g_rank : List D → R D := runF 1 false m_rank
-- value_before: one 0, other 1
def t_value_before_5 : YF := (yRet (x2 ltD (xVar 0) (xVar 1)))
def t_value_before_3 : YF := (ySeq (yIf (xT (x2 isD (xVar 0) (xC .none))) (yRet (xC (.bool false))) yNil) t_value_before_5)
def m_value_before : YF := (ySeq (yIf (xT (x2 neD (xCall g_rank (aCons (xVar 0) aNil)) (xCall g_rank (aCons (xVar 1) aNil)))) (yRet (x2 ltD (xCall g_rank (aCons (xVar 0) aNil)) (xCall g_rank (aCons (xVar 1) aNil)))) yNil) t_value_before_3)
def g_value_before : List D → R D := runF 2 false m_value_before
-- _law_cell_at: _law_script 0, _law_k 1
def t__law_cell_at_3 : YF := (yRet (xC (.int 0)))
def m__law_cell_at : YF := (ySeq (yIf (xT (x2 ltD (xVar 1) (xCall lenF (aCons (xVar 0) aNil)))) (yRet (x2 ixD (xVar 0) (xVar 1))) yNil) t__law_cell_at_3)
def g__law_cell_at : List D → R D := runF 2 false m__law_cell_at
-- _law_things: _law_script 0, _law_number 1, _law_signs 2, _law_cell 3, _law_word 4, _law_k 5, _law_at 6, _law_other_sign 7, _law_longer 8
def b__law_things_9 : YF := (ySet 4 (x2 addD (xVar 4) (x2 ixD (xVar 2) (x2 modD (x2 addD (x2 fdivD (xVar 3) (x2 addD (xVar 5) (xC (.int 3)))) (x2 mulD (xVar 5) (xVar 5))) (xC (.int 36))))))
def t__law_things_16 : YF := (yRet (xLst (aCons (xVar 1) (aCons (xVar 4) (aCons (xC .none) (aCons (x2 addD (x2 addD (xSl (xVar 4) xNoP (xP (xVar 6))) (xVar 7)) (xSl (xVar 4) (xP (x2 addD (xVar 6) (xC (.int 1)))) xNoP)) (aCons (x2 addD (xVar 1) (xC (.int 1))) (aCons (xVar 8) (aCons (x2 subD (xC (.int 0)) (xVar 1)) (aCons (x2 mulD (xC (.int 10)) (xVar 1)) aNil))))))))))
def t__law_things_15 : YF := (ySeq (ySet 8 (x2 addD (xVar 4) (x2 ixD (xVar 2) (x2 modD (x2 fdivD (xCall g__law_cell_at (aCons (xVar 0) (aCons (xC (.int 4)) aNil))) (xC (.int 35))) (xC (.int 36)))))) t__law_things_16)
def t__law_things_13 : YF := (ySeq (yIf (xT (x2 eqD (xVar 6) (xC (.int 0)))) (ySet 7 (x2 ixD (xVar 2) (x2 addD (xC (.int 10)) (x2 modD (x2 addD (x2 addD (xVar 3) (xC (.int 1))) (x2 modD (xCall g__law_cell_at (aCons (xVar 0) (aCons (xC (.int 4)) aNil))) (xC (.int 25)))) (xC (.int 26)))))) yNil) t__law_things_15)
def t__law_things_12 : YF := (ySeq (ySet 7 (x2 ixD (xVar 2) (x2 modD (x2 addD (x2 addD (xM1 findS (xVar 2) (x2 ixD (xVar 4) (xVar 6))) (xC (.int 1))) (x2 modD (xCall g__law_cell_at (aCons (xVar 0) (aCons (xC (.int 4)) aNil))) (xC (.int 35)))) (xC (.int 36))))) t__law_things_13)
def t__law_things_11 : YF := (ySeq (ySet 6 (x2 modD (x2 fdivD (xCall g__law_cell_at (aCons (xVar 0) (aCons (xC (.int 3)) aNil))) (xC (.int 11))) (xCall lenF (aCons (xVar 4) aNil)))) t__law_things_12)
def t__law_things_9 : YF := (ySeq (yFor (xRng rng1 (aCons (x2 modD (xCall g__law_cell_at (aCons (xVar 0) (aCons (xC (.int 3)) aNil))) (xC (.int 11))) aNil)) (bName 5) b__law_things_9) t__law_things_11)
def t__law_things_8 : YF := (ySeq (ySet 4 (x2 ixD (xVar 2) (x2 addD (xC (.int 10)) (x2 modD (xVar 3) (xC (.int 26)))))) t__law_things_9)
def t__law_things_7 : YF := (ySeq (ySet 3 (xCall g__law_cell_at (aCons (xVar 0) (aCons (xC (.int 2)) aNil)))) t__law_things_8)
def t__law_things_6 : YF := (ySeq (ySet 2 (xC (.str "0123456789abcdefghijklmnopqrstuvwxyz"))) t__law_things_7)
def t__law_things_4 : YF := (ySeq (yIf (xT (x2 eqD (x2 modD (x2 fdivD (xCall g__law_cell_at (aCons (xVar 0) (aCons (xC (.int 1)) aNil))) (xC (.int 3))) (xC (.int 2))) (xC (.int 1)))) (ySet 1 (x2 subD (xC (.int 0)) (xVar 1))) yNil) t__law_things_6)
def t__law_things_2 : YF := (ySeq (yIf (xT (x2 eqD (x2 modD (xCall g__law_cell_at (aCons (xVar 0) (aCons (xC (.int 1)) aNil))) (xC (.int 3))) (xC (.int 0)))) (ySet 1 (x2 modD (xVar 1) (xC (.int 12)))) yNil) t__law_things_4)
def m__law_things : YF := (ySeq (ySet 1 (x2 modD (xCall g__law_cell_at (aCons (xVar 0) (aCons (xC (.int 0)) aNil))) (x2 powD (xC (.int 10)) (xC (.int 59))))) t__law_things_2)
def g__law_things : List D → R D := runF 9 true m__law_things
-- _law_ahead: _law_one 0, _law_other 1, _law_signs 2, _law_k 3
def t__law_ahead_6 : YF := (yRet (x1 (isiF "int") (xVar 0)))
def b__law_ahead_8 : YF := (yIf (xT (x2 neD (x2 ixD (xVar 0) (xVar 3)) (x2 ixD (xVar 1) (xVar 3)))) (yRet (x2 ltD (xM1 findS (xVar 2) (x2 ixD (xVar 0) (xVar 3))) (xM1 findS (xVar 2) (x2 ixD (xVar 1) (xVar 3))))) yNil)
def t__law_ahead_11 : YF := (yRet (x2 ltD (xCall lenF (aCons (xVar 0) aNil)) (xCall lenF (aCons (xVar 1) aNil))))
def t__law_ahead_8 : YF := (ySeq (yFor (xRng rng1 (aCons (xCall minF (aCons (xCall lenF (aCons (xVar 0) aNil)) (aCons (xCall lenF (aCons (xVar 1) aNil)) aNil))) aNil)) (bName 3) b__law_ahead_8) t__law_ahead_11)
def t__law_ahead_7 : YF := (ySeq (ySet 2 (xC (.str "0123456789abcdefghijklmnopqrstuvwxyz"))) t__law_ahead_8)
def t__law_ahead_3 : YF := (ySeq (yIf (bOr (xT (x1 (isiF "int") (xVar 0))) (xT (x1 (isiF "int") (xVar 1)))) (ySeq (yIf (bAnd (xT (x1 (isiF "int") (xVar 0))) (xT (x1 (isiF "int") (xVar 1)))) (yRet (x2 ltD (xVar 0) (xVar 1))) yNil) t__law_ahead_6) yNil) t__law_ahead_7)
def m__law_ahead : YF := (ySeq (yIf (bOr (xT (x2 isD (xVar 0) (xC .none))) (xT (x2 isD (xVar 1) (xC .none)))) (yRet (xAnd (x2 isD (xVar 0) (xC .none)) (x2 isNotD (xVar 1) (xC .none)))) yNil) t__law_ahead_3)
def g__law_ahead : List D → R D := runF 4 false m__law_ahead
-- law: _law_script 0, _law_things_here 1, _law_one 2, _law_other 3, _law_found 4, _law_back 5
def t_law_6 : YF := (ySet 3 (x2 ixD (xLst (aCons (x2 ixD (xVar 1) (xC (.int 3))) (aCons (x2 ixD (xVar 1) (xC (.int 5))) aNil))) (x2 modD (x2 fdivD (xCall g__law_cell_at (aCons (xVar 0) (aCons (xC (.int 6)) aNil))) (xC (.int 24))) (xC (.int 2)))))
def t_law_11 : YF := (yRet (xAnd (x2 eqD (xVar 4) (xCall g__law_ahead (aCons (xVar 2) (aCons (xVar 3) aNil)))) (x2 eqD (xVar 5) (xCall g__law_ahead (aCons (xVar 3) (aCons (xVar 2) aNil))))))
def t_law_9 : YF := (ySeq (yIf (bOr (bNot (xT (x1 (isiF "bool") (xVar 4)))) (bNot (xT (x1 (isiF "bool") (xVar 5))))) (yRet (xC (.bool false))) yNil) t_law_11)
def t_law_8 : YF := (ySeq (ySet 5 (xCall g_value_before (aCons (xVar 3) (aCons (xVar 2) aNil)))) t_law_9)
def t_law_7 : YF := (ySeq (ySet 4 (xCall g_value_before (aCons (xVar 2) (aCons (xVar 3) aNil)))) t_law_8)
def t_law_4 : YF := (ySeq (yIf (xT (x2 eqD (x2 modD (x2 fdivD (xCall g__law_cell_at (aCons (xVar 0) (aCons (xC (.int 6)) aNil))) (xC (.int 8))) (xC (.int 3))) (xC (.int 0)))) (ySeq (ySet 2 (x2 ixD (xVar 1) (xC (.int 1)))) t_law_6) yNil) t_law_7)
def t_law_3 : YF := (ySeq (ySet 3 (x2 ixD (xVar 1) (x2 modD (xCall g__law_cell_at (aCons (xVar 0) (aCons (xC (.int 6)) aNil))) (xC (.int 8))))) t_law_4)
def t_law_2 : YF := (ySeq (ySet 2 (x2 ixD (xVar 1) (x2 modD (xCall g__law_cell_at (aCons (xVar 0) (aCons (xC (.int 5)) aNil))) (xC (.int 8))))) t_law_3)
def m_law : YF := (ySeq (ySet 1 (xCall g__law_things (aCons (xVar 0) aNil))) t_law_2)
def g_law : List D → R D := runF 6 false m_law
section
variable {P : Program} {w : World} {K : PySem.W.Frag} {mg : Str → Option Value} {base : Heap}
theorem ok_is_whole {f : Addr} {fd : FuncData} (F : Fun K "is_whole" "is_whole" s_is_whole f fd) (T : Txt mg) : FnOk P w K mg base (L2.CX P w) 1 f fd ["thing"] (spM K mg [true] false g_is_whole) :=
  fn_ok (Ωl := []) (Ω' := []) F sc_is_whole [true] false m_is_whole rfl fun cdv A outer s H E g0 =>
    (pys_one (py_ret rfl (px_and (px_isi rfl T.n_isinstance rfl T.n_int (by decide +kernel) rfl (pb_var (i := 0) rfl (.inl rfl))) (px_one (px_not (px_isi rfl T.n_isinstance rfl T.n_bool (by decide +kernel) rfl (pb_var (i := 0) rfl (.inl rfl))))))))
theorem ok_rank {f : Addr} {fd : FuncData} (F : Fun K "rank" "rank" s_rank f fd) (T : Txt mg) {f_is_whole : Addr} {fd_is_whole : FuncData} (c_is_whole : DefOk P w K mg base "is_whole" f_is_whole fd_is_whole ["thing"] [true] false g_is_whole 1) : FnOk P w K mg base (L2.CX P w) 2 f fd ["thing"] (spM K mg [true] false g_rank) :=
  fn_ok (Ωl := []) (Ω' := []) F sc_rank [true] false m_rank rfl fun cdv A outer s H E g0 =>
    (pys_cons (py_if (Ω' := []) rfl (ptx_cmp or_is (nomark _) nox_is rb_is (pb_var (i := 0) rfl (.inl rfl)) (PX.b px_non)) (pys_one (py_ret rfl px_int)) pys_nil) (pys_cons (py_if (Ω' := []) rfl (ptx_val (px_c g0 c_is_whole rfl rfl (pak_b (pb_var (i := 0) rfl (.inl rfl)) pak_nil))) (pys_one (py_ret rfl px_int)) pys_nil) (pys_one (py_ret rfl px_int))))
theorem ok_value_before {f : Addr} {fd : FuncData} (F : Fun K "value_before" "value_before" s_value_before f fd) (T : Txt mg) {f_rank : Addr} {fd_rank : FuncData} (c_rank : DefOk P w K mg base "rank" f_rank fd_rank ["thing"] [true] false g_rank 2) : FnOk P w K mg base (L2.CX P w) 3 f fd ["one", "other"] (spM K mg [true, true] false g_value_before) :=
  fn_ok (Ωl := []) (Ω' := []) F sc_value_before [true, true] false m_value_before rfl fun cdv A outer s H E g0 =>
    (pys_cons (py_if (Ω' := []) rfl (ptx_cmp (op_neD g0.u64) (nomark _) nox_ne rb_ne (PX.b (px_c g0 c_rank rfl rfl (pak_b (pb_var (i := 0) rfl (.inl rfl)) pak_nil))) (PX.b (px_c g0 c_rank rfl rfl (pak_b (pb_var (i := 1) rfl (.inl rfl)) pak_nil)))) (pys_one (py_ret rfl (px_cmp or_lt (nomark _) nox_lt rb_lt (PX.b (px_c g0 c_rank rfl rfl (pak_b (pb_var (i := 0) rfl (.inl rfl)) pak_nil))) (PX.b (px_c g0 c_rank rfl rfl (pak_b (pb_var (i := 1) rfl (.inl rfl)) pak_nil)))))) pys_nil) (pys_cons (py_if (Ω' := []) rfl (ptx_cmp or_is (nomark _) nox_is rb_is (pb_var (i := 0) rfl (.inl rfl)) (PX.b px_non)) (pys_one (py_ret rfl px_bl)) pys_nil) (pys_one (py_ret rfl (px_cmp or_lt (nomark _) nox_lt rb_lt (pb_var (i := 0) rfl (.inl rfl)) (pb_var (i := 1) rfl (.inl rfl)))))))
theorem ok__law_cell_at {f : Addr} {fd : FuncData} (F : Fun K "_law_cell_at" "_law_cell_at" s__law_cell_at f fd) (T : Txt mg) : FnOk P w K mg base (L2.CX P w) 1 f fd ["_law_script", "_law_k"] (spM K mg [true, true] false g__law_cell_at) :=
  fn_ok (Ωl := []) (Ω' := []) F sc__law_cell_at [true, true] false m__law_cell_at rfl fun cdv A outer s H E g0 =>
    (pys_cons (py_if (Ω' := []) rfl (ptx_cmp or_lt (nomark _) nox_lt rb_lt (pb_var (i := 1) rfl (.inl rfl)) (PX.b (px_bi cr_lenA nox_len rc_len rfl T.n_len PySem.boot_len (pak_b (pb_var (i := 0) rfl (.inl rfl)) pak_nil)))) (pys_one (py_ret rfl (px_ix (fun _ _ => rfl) (pb_var (i := 0) rfl (.inl rfl)) (pb_var (i := 1) rfl (.inl rfl))))) pys_nil) (pys_one (py_ret rfl px_int)))
theorem ok__law_things {f : Addr} {fd : FuncData} (F : Fun K "_law_things" "_law_things" s__law_things f fd) (T : Txt mg) {f__law_cell_at : Addr} {fd__law_cell_at : FuncData} (c__law_cell_at : DefOk P w K mg base "_law_cell_at" f__law_cell_at fd__law_cell_at ["_law_script", "_law_k"] [true, true] false g__law_cell_at 1) : FnOk P w K mg base (L2.CX P w) 2 f fd ["_law_script"] (spM K mg [true] true g__law_things) :=
  fn_ok (Ωl := []) (Ω' := []) F sc__law_things [true] true m__law_things rfl fun cdv A outer s H E g0 =>
    (pys_cons (py_set (Ω' := []) (i := 1) g0 rfl rfl rfl (.inl rfl) (px_op op_modN nox_mod rb_mod (PX.b (px_c g0 c__law_cell_at rfl rfl (pak_b (pb_var (i := 0) rfl (.inl rfl)) (pak_b (PX.b px_int) pak_nil)))) (PX.b (px_op op_pow nox_pow rb_pow (PX.b px_int) (PX.b px_int))))) (pys_cons (py_if (Ω' := []) rfl (ptx_cmp (op_eqD g0.u64) (nomark _) nox_eq rb_eq (PX.b (px_op op_modN nox_mod rb_mod (PX.b (px_c g0 c__law_cell_at rfl rfl (pak_b (pb_var (i := 0) rfl (.inl rfl)) (pak_b (PX.b px_int) pak_nil)))) (PX.b px_int))) (PX.b px_int)) (pys_one (py_set (Ω' := []) (i := 1) g0 rfl rfl rfl (.inl rfl) (px_op op_modN nox_mod rb_mod (pb_var (i := 1) rfl (.inl rfl)) (PX.b px_int)))) pys_nil) (pys_cons (py_if (Ω' := []) rfl (ptx_cmp (op_eqD g0.u64) (nomark _) nox_eq rb_eq (PX.b (px_op op_modN nox_mod rb_mod (PX.b (px_op or_fdiv nox_fdiv rb_fdiv (PX.b (px_c g0 c__law_cell_at rfl rfl (pak_b (pb_var (i := 0) rfl (.inl rfl)) (pak_b (PX.b px_int) pak_nil)))) (PX.b px_int))) (PX.b px_int))) (PX.b px_int)) (pys_one (py_set (Ω' := []) (i := 1) g0 rfl rfl rfl (.inl rfl) (px_op op_sub nox_sub rb_sub (PX.b px_int) (pb_var (i := 1) rfl (.inl rfl))))) pys_nil) (pys_cons (py_set (Ω' := []) (i := 2) g0 rfl rfl rfl (.inl rfl) px_str) (pys_cons (py_set (Ω' := []) (i := 3) g0 rfl rfl rfl (.inl rfl) (px_c g0 c__law_cell_at rfl rfl (pak_b (pb_var (i := 0) rfl (.inl rfl)) (pak_b (PX.b px_int) pak_nil)))) (pys_cons (py_set (Ω' := []) (i := 4) g0 rfl rfl rfl (.inl rfl) (px_ix (fun _ _ => rfl) (pb_var (i := 2) rfl (.inl rfl)) (PX.b (px_op or_add nox_add rb_add (PX.b px_int) (PX.b (px_op op_modN nox_mod rb_mod (pb_var (i := 3) rfl (.inl rfl)) (PX.b px_int))))))) (pys_cons (py_for g0 rfl (pis_range1 rfl T.n_range (paf_cons (px_op op_modN nox_mod rb_mod (PX.b (px_c g0 c__law_cell_at rfl rfl (pak_b (pb_var (i := 0) rfl (.inl rfl)) (pak_b (PX.b px_int) pak_nil)))) (PX.b px_int)) paf_nil)) (tgu_name rfl rfl) (pg_name (i := 5) g0.nd rfl (.inl rfl)) (pys_one (py_set (Ω' := []) (i := 4) g0 rfl rfl rfl (.inl rfl) (px_op or_add nox_add rb_add (pb_var (i := 4) rfl (.inl rfl)) (PX.b (px_ix (fun _ _ => rfl) (pb_var (i := 2) rfl (.inl rfl)) (PX.b (px_op op_modN nox_mod rb_mod (PX.b (px_op or_add nox_add rb_add (PX.b (px_op or_fdiv nox_fdiv rb_fdiv (pb_var (i := 3) rfl (.inl rfl)) (PX.b (px_op or_add nox_add rb_add (pb_var (i := 5) rfl (.inl rfl)) (PX.b px_int))))) (PX.b (px_op or_mul nox_mul rb_mul (pb_var (i := 5) rfl (.inl rfl)) (pb_var (i := 5) rfl (.inl rfl)))))) (PX.b px_int))))))))) (pys_cons (py_set (Ω' := []) (i := 6) g0 rfl rfl rfl (.inl rfl) (px_op op_modN nox_mod rb_mod (PX.b (px_op or_fdiv nox_fdiv rb_fdiv (PX.b (px_c g0 c__law_cell_at rfl rfl (pak_b (pb_var (i := 0) rfl (.inl rfl)) (pak_b (PX.b px_int) pak_nil)))) (PX.b px_int))) (PX.b (px_bi cr_lenA nox_len rc_len rfl T.n_len PySem.boot_len (pak_b (pb_var (i := 4) rfl (.inl rfl)) pak_nil))))) (pys_cons (py_set (Ω' := []) (i := 7) g0 rfl rfl rfl (.inl rfl) (px_ix (fun _ _ => rfl) (pb_var (i := 2) rfl (.inl rfl)) (PX.b (px_op op_modN nox_mod rb_mod (PX.b (px_op or_add nox_add rb_add (PX.b (px_op or_add nox_add rb_add (PX.b (px_find (px_var (i := 2) rfl (.inl rfl) rfl rfl) (PX.b (px_ix (fun _ _ => rfl) (pb_var (i := 4) rfl (.inl rfl)) (pb_var (i := 6) rfl (.inl rfl)))))) (PX.b px_int))) (PX.b (px_op op_modN nox_mod rb_mod (PX.b (px_c g0 c__law_cell_at rfl rfl (pak_b (pb_var (i := 0) rfl (.inl rfl)) (pak_b (PX.b px_int) pak_nil)))) (PX.b px_int))))) (PX.b px_int))))) (pys_cons (py_if (Ω' := []) rfl (ptx_cmp (op_eqD g0.u64) (nomark _) nox_eq rb_eq (pb_var (i := 6) rfl (.inl rfl)) (PX.b px_int)) (pys_one (py_set (Ω' := []) (i := 7) g0 rfl rfl rfl (.inl rfl) (px_ix (fun _ _ => rfl) (pb_var (i := 2) rfl (.inl rfl)) (PX.b (px_op or_add nox_add rb_add (PX.b px_int) (PX.b (px_op op_modN nox_mod rb_mod (PX.b (px_op or_add nox_add rb_add (PX.b (px_op or_add nox_add rb_add (pb_var (i := 3) rfl (.inl rfl)) (PX.b px_int))) (PX.b (px_op op_modN nox_mod rb_mod (PX.b (px_c g0 c__law_cell_at rfl rfl (pak_b (pb_var (i := 0) rfl (.inl rfl)) (pak_b (PX.b px_int) pak_nil)))) (PX.b px_int))))) (PX.b px_int)))))))) pys_nil) (pys_cons (py_set (Ω' := []) (i := 8) g0 rfl rfl rfl (.inl rfl) (px_op or_add nox_add rb_add (pb_var (i := 4) rfl (.inl rfl)) (PX.b (px_ix (fun _ _ => rfl) (pb_var (i := 2) rfl (.inl rfl)) (PX.b (px_op op_modN nox_mod rb_mod (PX.b (px_op or_fdiv nox_fdiv rb_fdiv (PX.b (px_c g0 c__law_cell_at rfl rfl (pak_b (pb_var (i := 0) rfl (.inl rfl)) (pak_b (PX.b px_int) pak_nil)))) (PX.b px_int))) (PX.b px_int))))))) (pys_one (py_retO rfl (po_lst (paf_cons (px_var (i := 1) rfl (.inl rfl) rfl rfl) (paf_cons (px_var (i := 4) rfl (.inl rfl) rfl rfl) (paf_cons px_non (paf_cons (px_op or_add nox_add rb_add (PX.b (px_op or_add nox_add rb_add (PX.b (px_slice (pb_var (i := 4) rfl (.inl rfl)) pp_none (pp_some (px_var (i := 6) rfl (.inl rfl) rfl rfl)))) (pb_var (i := 7) rfl (.inl rfl)))) (PX.b (px_slice (pb_var (i := 4) rfl (.inl rfl)) (pp_some (px_op or_add nox_add rb_add (pb_var (i := 6) rfl (.inl rfl)) (PX.b px_int))) pp_none))) (paf_cons (px_op or_add nox_add rb_add (pb_var (i := 1) rfl (.inl rfl)) (PX.b px_int)) (paf_cons (px_var (i := 8) rfl (.inl rfl) rfl rfl) (paf_cons (px_op op_sub nox_sub rb_sub (PX.b px_int) (pb_var (i := 1) rfl (.inl rfl))) (paf_cons (px_op or_mul nox_mul rb_mul (PX.b px_int) (pb_var (i := 1) rfl (.inl rfl))) paf_nil))))))))))))))))))))))
theorem ok__law_ahead {f : Addr} {fd : FuncData} (F : Fun K "_law_ahead" "_law_ahead" s__law_ahead f fd) (T : Txt mg) : FnOk P w K mg base (L2.CX P w) 1 f fd ["_law_one", "_law_other"] (spM K mg [true, true] false g__law_ahead) :=
  fn_ok (Ωl := []) (Ω' := []) F sc__law_ahead [true, true] false m__law_ahead rfl fun cdv A outer s H E g0 =>
    (pys_cons (py_if (Ω' := []) rfl (ptx_w (pwx_or (ptx_cmp or_is (nomark _) nox_is rb_is (pb_var (i := 0) rfl (.inl rfl)) (PX.b px_non)) (pwx_or1 (ptx_cmp or_is (nomark _) nox_is rb_is (pb_var (i := 1) rfl (.inl rfl)) (PX.b px_non))))) (pys_one (py_ret rfl (px_and (px_cmp or_is (nomark _) nox_is rb_is (pb_var (i := 0) rfl (.inl rfl)) (PX.b px_non)) (px_one (px_cmp or_isNot (nomark _) nox_isNot rb_isNot (pb_var (i := 1) rfl (.inl rfl)) (PX.b px_non)))))) pys_nil) (pys_cons (py_if (Ω' := []) rfl (ptx_w (pwx_or (ptx_val (px_isi rfl T.n_isinstance rfl T.n_int (by decide +kernel) rfl (pb_var (i := 0) rfl (.inl rfl)))) (pwx_or1 (ptx_val (px_isi rfl T.n_isinstance rfl T.n_int (by decide +kernel) rfl (pb_var (i := 1) rfl (.inl rfl))))))) (pys_cons (py_if (Ω' := []) rfl (ptx_w (pwx_and (ptx_val (px_isi rfl T.n_isinstance rfl T.n_int (by decide +kernel) rfl (pb_var (i := 0) rfl (.inl rfl)))) (pwx_and1 (ptx_val (px_isi rfl T.n_isinstance rfl T.n_int (by decide +kernel) rfl (pb_var (i := 1) rfl (.inl rfl))))))) (pys_one (py_ret rfl (px_cmp or_lt (nomark _) nox_lt rb_lt (pb_var (i := 0) rfl (.inl rfl)) (pb_var (i := 1) rfl (.inl rfl))))) pys_nil) (pys_one (py_ret rfl (px_isi rfl T.n_isinstance rfl T.n_int (by decide +kernel) rfl (pb_var (i := 0) rfl (.inl rfl)))))) pys_nil) (pys_cons (py_set (Ω' := []) (i := 2) g0 rfl rfl rfl (.inl rfl) px_str) (pys_cons (py_for g0 rfl (pis_range1 rfl T.n_range (paf_cons (px_bi (cr_minA g0) nox_min rc_min2 rfl T.n_min (by decide +kernel) (pak_b (PX.b (px_bi cr_lenA nox_len rc_len rfl T.n_len PySem.boot_len (pak_b (pb_var (i := 0) rfl (.inl rfl)) pak_nil))) (pak_b (PX.b (px_bi cr_lenA nox_len rc_len rfl T.n_len PySem.boot_len (pak_b (pb_var (i := 1) rfl (.inl rfl)) pak_nil))) pak_nil))) paf_nil)) (tgu_name rfl rfl) (pg_name (i := 3) g0.nd rfl (.inl rfl)) (pys_one (py_if (Ω' := []) rfl (ptx_cmp (op_neD g0.u64) (nomark _) nox_ne rb_ne (PX.b (px_ix (fun _ _ => rfl) (pb_var (i := 0) rfl (.inl rfl)) (pb_var (i := 3) rfl (.inl rfl)))) (PX.b (px_ix (fun _ _ => rfl) (pb_var (i := 1) rfl (.inl rfl)) (pb_var (i := 3) rfl (.inl rfl))))) (pys_one (py_ret rfl (px_cmp or_lt (nomark _) nox_lt rb_lt (PX.b (px_find (px_var (i := 2) rfl (.inl rfl) rfl rfl) (PX.b (px_ix (fun _ _ => rfl) (pb_var (i := 0) rfl (.inl rfl)) (pb_var (i := 3) rfl (.inl rfl)))))) (PX.b (px_find (px_var (i := 2) rfl (.inl rfl) rfl rfl) (PX.b (px_ix (fun _ _ => rfl) (pb_var (i := 1) rfl (.inl rfl)) (pb_var (i := 3) rfl (.inl rfl))))))))) pys_nil))) (pys_one (py_ret rfl (px_cmp or_lt (nomark _) nox_lt rb_lt (PX.b (px_bi cr_lenA nox_len rc_len rfl T.n_len PySem.boot_len (pak_b (pb_var (i := 0) rfl (.inl rfl)) pak_nil))) (PX.b (px_bi cr_lenA nox_len rc_len rfl T.n_len PySem.boot_len (pak_b (pb_var (i := 1) rfl (.inl rfl)) pak_nil))))))))))
theorem ok_law {f : Addr} {fd : FuncData} (F : Fun K "law" "law" s_law f fd) (T : Txt mg) {f__law_things : Addr} {fd__law_things : FuncData} (c__law_things : DefOk P w K mg base "_law_things" f__law_things fd__law_things ["_law_script"] [true] true g__law_things 2) {f__law_cell_at : Addr} {fd__law_cell_at : FuncData} (c__law_cell_at : DefOk P w K mg base "_law_cell_at" f__law_cell_at fd__law_cell_at ["_law_script", "_law_k"] [true, true] false g__law_cell_at 1) {f_value_before : Addr} {fd_value_before : FuncData} (c_value_before : DefOk P w K mg base "value_before" f_value_before fd_value_before ["one", "other"] [true, true] false g_value_before 3) {f__law_ahead : Addr} {fd__law_ahead : FuncData} (c__law_ahead : DefOk P w K mg base "_law_ahead" f__law_ahead fd__law_ahead ["_law_one", "_law_other"] [true, true] false g__law_ahead 1) : FnOk P w K mg base (L2.CX P w) 4 f fd ["_law_script"] (spM K mg [true] false g_law) :=
  fn_ok (Ωl := []) (Ω' := []) F sc_law [true] false m_law rfl fun cdv A outer s H E g0 =>
    (pys_cons (py_set (Ω' := []) (i := 1) g0 rfl rfl rfl (.inl rfl) (PO.x (po_c g0 c__law_things rfl rfl (pak_b (pb_var (i := 0) rfl (.inl rfl)) pak_nil)))) (pys_cons (py_set (Ω' := []) (i := 2) g0 rfl rfl rfl (.inl rfl) (px_ix (fun _ _ => rfl) (pb_var (i := 1) rfl (.inl rfl)) (PX.b (px_op op_modN nox_mod rb_mod (PX.b (px_c g0 c__law_cell_at rfl rfl (pak_b (pb_var (i := 0) rfl (.inl rfl)) (pak_b (PX.b px_int) pak_nil)))) (PX.b px_int))))) (pys_cons (py_set (Ω' := []) (i := 3) g0 rfl rfl rfl (.inl rfl) (px_ix (fun _ _ => rfl) (pb_var (i := 1) rfl (.inl rfl)) (PX.b (px_op op_modN nox_mod rb_mod (PX.b (px_c g0 c__law_cell_at rfl rfl (pak_b (pb_var (i := 0) rfl (.inl rfl)) (pak_b (PX.b px_int) pak_nil)))) (PX.b px_int))))) (pys_cons (py_if (Ω' := []) rfl (ptx_cmp (op_eqD g0.u64) (nomark _) nox_eq rb_eq (PX.b (px_op op_modN nox_mod rb_mod (PX.b (px_op or_fdiv nox_fdiv rb_fdiv (PX.b (px_c g0 c__law_cell_at rfl rfl (pak_b (pb_var (i := 0) rfl (.inl rfl)) (pak_b (PX.b px_int) pak_nil)))) (PX.b px_int))) (PX.b px_int))) (PX.b px_int)) (pys_cons (py_set (Ω' := []) (i := 2) g0 rfl rfl rfl (.inl rfl) (px_ix (fun _ _ => rfl) (pb_var (i := 1) rfl (.inl rfl)) (PX.b px_int))) (pys_one (py_set (Ω' := []) (i := 3) g0 rfl rfl rfl (.inl rfl) (px_ix (fun _ _ => rfl) (PX.b (PO.x (po_lst (paf_cons (px_ix (fun _ _ => rfl) (pb_var (i := 1) rfl (.inl rfl)) (PX.b px_int)) (paf_cons (px_ix (fun _ _ => rfl) (pb_var (i := 1) rfl (.inl rfl)) (PX.b px_int)) paf_nil))))) (PX.b (px_op op_modN nox_mod rb_mod (PX.b (px_op or_fdiv nox_fdiv rb_fdiv (PX.b (px_c g0 c__law_cell_at rfl rfl (pak_b (pb_var (i := 0) rfl (.inl rfl)) (pak_b (PX.b px_int) pak_nil)))) (PX.b px_int))) (PX.b px_int))))))) pys_nil) (pys_cons (py_set (Ω' := []) (i := 4) g0 rfl rfl rfl (.inl rfl) (px_c g0 c_value_before rfl rfl (pak_b (pb_var (i := 2) rfl (.inl rfl)) (pak_b (pb_var (i := 3) rfl (.inl rfl)) pak_nil)))) (pys_cons (py_set (Ω' := []) (i := 5) g0 rfl rfl rfl (.inl rfl) (px_c g0 c_value_before rfl rfl (pak_b (pb_var (i := 3) rfl (.inl rfl)) (pak_b (pb_var (i := 2) rfl (.inl rfl)) pak_nil)))) (pys_cons (py_if (Ω' := []) rfl (ptx_w (pwx_or (ptx_not (ptx_val (px_isi rfl T.n_isinstance rfl T.n_bool (by decide +kernel) rfl (pb_var (i := 4) rfl (.inl rfl))))) (pwx_or1 (ptx_not (ptx_val (px_isi rfl T.n_isinstance rfl T.n_bool (by decide +kernel) rfl (pb_var (i := 5) rfl (.inl rfl)))))))) (pys_one (py_ret rfl px_bl)) pys_nil) (pys_one (py_ret rfl (px_and (px_cmp (op_eqD g0.u64) (nomark _) nox_eq rb_eq (pb_var (i := 4) rfl (.inl rfl)) (PX.b (px_c g0 c__law_ahead rfl rfl (pak_b (pb_var (i := 2) rfl (.inl rfl)) (pak_b (pb_var (i := 3) rfl (.inl rfl)) pak_nil))))) (px_one (px_cmp (op_eqD g0.u64) (nomark _) nox_eq rb_eq (pb_var (i := 5) rfl (.inl rfl)) (PX.b (px_c g0 c__law_ahead rfl rfl (pak_b (pb_var (i := 3) rfl (.inl rfl)) (pak_b (pb_var (i := 2) rfl (.inl rfl)) pak_nil))))))))))))))))
end
theorem all_mk {l : PySem.W.OpenLaw} {w : World} {K : PySem.W.Frag} {h : Heap} {mg : Str → Option Value} {fa : Addr} (X : K.In h) (G : h.Ns mainGlobals mg) (hfa : mg "law" = some (.ref fa))
    {f1 f2 f3 f4 f5 f6 f7 : Addr} {od1 an1 od2 an2 od3 an3 od4 an4 od5 an5 od6 an6 od7 an7 : Option Addr} {sl1 sl2 sl3 sl4 sl5 sl6 sl7 : Array (Option Value)} {oc1 kV1 dc1 pm1 cd1 ct1 oc2 kV2 dc2 pm2 cd2 ct2 oc3 kV3 dc3 pm3 cd3 ct3 oc4 kV4 dc4 pm4 cd4 ct4 oc5 kV5 dc5 pm5 cd5 ct5 oc6 kV6 dc6 pm6 cd6 ct6 oc7 kV7 dc7 pm7 cd7 ct7 : Value}
    (a1 : PySem.W.nsIn K mainGlobals "is_whole" = some (some (.ref f1))) (l1 : K.lookup f1 = some ⟨oc1, od1, .func (PySem.W.fnOf "is_whole" "is_whole" (defArgs s_is_whole) (defBody s_is_whole) (defScope s_is_whole) .none kV1 dc1 pm1 an1 cd1 ct1), sl1⟩) (d1 : PySem.W.codeIn K cd1 "is_whole" = true) (k1 : PySem.W.keepIn K (.ref f1) = true)
    (a2 : PySem.W.nsIn K mainGlobals "rank" = some (some (.ref f2))) (l2 : K.lookup f2 = some ⟨oc2, od2, .func (PySem.W.fnOf "rank" "rank" (defArgs s_rank) (defBody s_rank) (defScope s_rank) .none kV2 dc2 pm2 an2 cd2 ct2), sl2⟩) (d2 : PySem.W.codeIn K cd2 "rank" = true) (k2 : PySem.W.keepIn K (.ref f2) = true)
    (a3 : PySem.W.nsIn K mainGlobals "value_before" = some (some (.ref f3))) (l3 : K.lookup f3 = some ⟨oc3, od3, .func (PySem.W.fnOf "value_before" "value_before" (defArgs s_value_before) (defBody s_value_before) (defScope s_value_before) .none kV3 dc3 pm3 an3 cd3 ct3), sl3⟩) (d3 : PySem.W.codeIn K cd3 "value_before" = true) (k3 : PySem.W.keepIn K (.ref f3) = true)
    (a4 : PySem.W.nsIn K mainGlobals "_law_cell_at" = some (some (.ref f4))) (l4 : K.lookup f4 = some ⟨oc4, od4, .func (PySem.W.fnOf "_law_cell_at" "_law_cell_at" (defArgs s__law_cell_at) (defBody s__law_cell_at) (defScope s__law_cell_at) .none kV4 dc4 pm4 an4 cd4 ct4), sl4⟩) (d4 : PySem.W.codeIn K cd4 "_law_cell_at" = true) (k4 : PySem.W.keepIn K (.ref f4) = true)
    (a5 : PySem.W.nsIn K mainGlobals "_law_things" = some (some (.ref f5))) (l5 : K.lookup f5 = some ⟨oc5, od5, .func (PySem.W.fnOf "_law_things" "_law_things" (defArgs s__law_things) (defBody s__law_things) (defScope s__law_things) .none kV5 dc5 pm5 an5 cd5 ct5), sl5⟩) (d5 : PySem.W.codeIn K cd5 "_law_things" = true) (k5 : PySem.W.keepIn K (.ref f5) = true)
    (a6 : PySem.W.nsIn K mainGlobals "_law_ahead" = some (some (.ref f6))) (l6 : K.lookup f6 = some ⟨oc6, od6, .func (PySem.W.fnOf "_law_ahead" "_law_ahead" (defArgs s__law_ahead) (defBody s__law_ahead) (defScope s__law_ahead) .none kV6 dc6 pm6 an6 cd6 ct6), sl6⟩) (d6 : PySem.W.codeIn K cd6 "_law_ahead" = true) (k6 : PySem.W.keepIn K (.ref f6) = true)
    (a7 : PySem.W.nsIn K mainGlobals "law" = some (some (.ref f7))) (l7 : K.lookup f7 = some ⟨oc7, od7, .func (PySem.W.fnOf "law" "law" (defArgs s_law) (defBody s_law) (defScope s_law) .none kV7 dc7 pm7 an7 cd7 ct7), sl7⟩) (d7 : PySem.W.codeIn K cd7 "law" = true) (k7 : PySem.W.keepIn K (.ref f7) = true)
    (z_bool : PySem.W.nsIn K mainGlobals "bool" = some none)
    (z_int : PySem.W.nsIn K mainGlobals "int" = some none)
    (z_isinstance : PySem.W.nsIn K mainGlobals "isinstance" = some none)
    (z_len : PySem.W.nsIn K mainGlobals "len" = some none)
    (z_min : PySem.W.nsIn K mainGlobals "min" = some none)
    (z_range : PySem.W.nsIn K mainGlobals "range" = some none)
    : ∃ fd : FuncData, (∀ (s : Shared) (v : Value), BindsTo s fd ⟨[v], []⟩ [("_law_script", v)]) ∧ ∀ base : Heap, K.In base → base.Ns mainGlobals mg → FnOk l.prog w K mg base (L2.CX l.prog w) 4 fa fd ["_law_script"] (spM K mg [true] false g_law) := by
  have e := hfa.symm.trans (PySem.W.mg_of X G a7)
  cases e
  have T : Txt mg := ⟨PySem.W.mg_none_of X G z_bool, PySem.W.mg_none_of X G z_int, PySem.W.mg_none_of X G z_isinstance, PySem.W.mg_none_of X G z_len, PySem.W.mg_none_of X G z_min, PySem.W.mg_none_of X G z_range⟩
  refine ⟨PySem.W.fnOf "law" "law" (defArgs s_law) (defBody s_law) (defScope s_law) .none kV7 dc7 pm7 an7 cd7 ct7, fun s v => .of_eq rfl, fun base _ _ => ?_⟩
  have F1 := fun_mk (st := s_is_whole) l1 d1 k1
  have c_is_whole : DefOk l.prog w K mg base "is_whole" f1 _ ["thing"] [true] false g_is_whole 1 := ⟨ok_is_whole F1 T , PySem.W.mg_of X G a1, k1, F1.binds (ps := ["thing"]) fun _ _ _ _ _ _ us hl => match us, hl with | [_], _ => rfl⟩
  have F2 := fun_mk (st := s_rank) l2 d2 k2
  have c_rank : DefOk l.prog w K mg base "rank" f2 _ ["thing"] [true] false g_rank 2 := ⟨ok_rank F2 T c_is_whole, PySem.W.mg_of X G a2, k2, F2.binds (ps := ["thing"]) fun _ _ _ _ _ _ us hl => match us, hl with | [_], _ => rfl⟩
  have F3 := fun_mk (st := s_value_before) l3 d3 k3
  have c_value_before : DefOk l.prog w K mg base "value_before" f3 _ ["one", "other"] [true, true] false g_value_before 3 := ⟨ok_value_before F3 T c_rank, PySem.W.mg_of X G a3, k3, F3.binds (ps := ["one", "other"]) fun _ _ _ _ _ _ us hl => match us, hl with | [_, _], _ => rfl⟩
  have F4 := fun_mk (st := s__law_cell_at) l4 d4 k4
  have c__law_cell_at : DefOk l.prog w K mg base "_law_cell_at" f4 _ ["_law_script", "_law_k"] [true, true] false g__law_cell_at 1 := ⟨ok__law_cell_at F4 T , PySem.W.mg_of X G a4, k4, F4.binds (ps := ["_law_script", "_law_k"]) fun _ _ _ _ _ _ us hl => match us, hl with | [_, _], _ => rfl⟩
  have F5 := fun_mk (st := s__law_things) l5 d5 k5
  have c__law_things : DefOk l.prog w K mg base "_law_things" f5 _ ["_law_script"] [true] true g__law_things 2 := ⟨ok__law_things F5 T c__law_cell_at, PySem.W.mg_of X G a5, k5, F5.binds (ps := ["_law_script"]) fun _ _ _ _ _ _ us hl => match us, hl with | [_], _ => rfl⟩
  have F6 := fun_mk (st := s__law_ahead) l6 d6 k6
  have c__law_ahead : DefOk l.prog w K mg base "_law_ahead" f6 _ ["_law_one", "_law_other"] [true, true] false g__law_ahead 1 := ⟨ok__law_ahead F6 T , PySem.W.mg_of X G a6, k6, F6.binds (ps := ["_law_one", "_law_other"]) fun _ _ _ _ _ _ us hl => match us, hl with | [_, _], _ => rfl⟩
  exact ok_law (fun_mk (st := s_law) l7 d7 k7) T c__law_things c__law_cell_at c_value_before c__law_ahead
theorem cell_at (ns : List Int) (k : Int) (h : 0 ≤ k) : g__law_cell_at [.list (ns.map .int), .int k] = .ok (.int (cell ns k.toNat)) := by
  refine runF_ret ?_
  by_cases hk : k < (ns.length : Int)
  · simp [m__law_cell_at, t__law_cell_at_3, hk, ixD_l h (cell_get (show k.toNat < ns.length by omega))]
  · simp [m__law_cell_at, t__law_cell_at_3, hk, cell_none (show ns.length ≤ k.toNat by omega)]

def ch (c : Nat) : D := .str ⟨#[c]⟩
def lets : List Nat := (List.range 26).map (97 + ·)
def figs : List Nat := (List.range 10).map (48 + ·)
theorem in_ch (c : Nat) (l : List Nat) : inD (ch c) (.str ⟨l.toArray⟩) = .ok (.bool (decide (c ∈ l))) := by simp [ch, inD, inStr]
theorem notin_ch (c : Nat) (l : List Nat) : notInD (ch c) (.str ⟨l.toArray⟩) = .ok (.bool (!decide (c ∈ l))) := by simp [ch, notInD, inStr]
theorem ix_ch {l : List Nat} {c : Nat} {i : Int} (hi : 0 ≤ i) (hl : l.length ≤ 1000000) (h : l[i.toNat]? = some c) : ixD (.str ⟨l.toArray⟩) (.int i) = .ok (ch c) := by
  have : (⟨l.toArray⟩ : Str).length ≤ sizeLine := small (by simpa [Str.length] using hl)
  simp [ixD, this, atI_nn hi, h, ch]
theorem seq_ch (l : List Nat) : seqD (.str ⟨l.toArray⟩) = .ok (l.map ch) := by simp [seqD, ch]
theorem len_ch {l : List Nat} (hl : l.length ≤ 1000000) : lenF [.str ⟨l.toArray⟩] = .ok (.int l.length) := by
  rw [lenF_s (small (by simpa [Str.length] using hl))]; simp [Str.length]
theorem add_ch {a b : List Nat} (h : a.length + b.length ≤ 1000000) : addD (.str ⟨a.toArray⟩) (.str ⟨b.toArray⟩) = .ok (.str ⟨(a ++ b).toArray⟩) := by
  rw [addD_ss (small (by simpa [Str.length] using h))]
  congr 2
  show (⟨a.toArray ++ b.toArray⟩ : Str) = _
  simp
theorem sl_ch {l : List Nat} {lo hi : Option Int} (h : l.length ≤ 1000000) : slD (.str ⟨l.toArray⟩) lo hi = .ok (.str ⟨(cutG l lo hi).toArray⟩) := by
  have : (⟨l.toArray⟩ : Str).length ≤ sizeLine := small (by simpa [Str.length] using h)
  show okIf _ _ = _
  rw [decide_eq_true this]
  show R.ok _ = _
  congr 2
theorem eq_ch (a b : List Nat) : eqD (.str ⟨a.toArray⟩) (.str ⟨b.toArray⟩) = .ok (.bool (decide (a = b))) := by
  simp only [eqD, shp_str, PyData.eqv, Bool.and_self, okIf_t]
  congr 2
  rw [Bool.eq_iff_iff]
  simp
theorem ne_ch (a b : List Nat) : neD (.str ⟨a.toArray⟩) (.str ⟨b.toArray⟩) = .ok (.bool (!decide (a = b))) := by
  simp only [neD, shp_str, PyData.eqv, Bool.and_self, okIf_t]
  congr 3
  rw [Bool.eq_iff_iff]
  simp
theorem ch_str (c : Nat) : ch c = .str ⟨[c].toArray⟩ := rfl

def S0 : List Nat := figs ++ lets
theorem signs_e : ("0123456789abcdefghijklmnopqrstuvwxyz" : Str) = ⟨S0.toArray⟩ := by decide +kernel
theorem S0_len : S0.length = 36 := by decide +kernel
theorem find_tab : ∀ c ∈ S0, Txt.find ⟨S0.toArray⟩ ⟨#[c]⟩ = (if c < 97 then (c : Int) - 48 else (c : Int) - 87) := by decide +kernel
theorem S0_rng : ∀ c ∈ S0, (48 ≤ c ∧ c < 58) ∨ (97 ≤ c ∧ c < 123) := by decide +kernel
theorem find_lt {a b : Nat} (ha : a ∈ S0) (hb : b ∈ S0) : Txt.find ⟨S0.toArray⟩ ⟨#[a]⟩ < Txt.find ⟨S0.toArray⟩ ⟨#[b]⟩ ↔ a < b := by
  rw [find_tab a ha, find_tab b hb]
  have := S0_rng a ha; have := S0_rng b hb
  split <;> split <;> omega
inductive VV | n | i (z : Int) | w (l : List Nat)
def VV.enc : VV → D
  | .n => .none
  | .i z => .int z
  | .w l => .str ⟨l.toArray⟩
def VV.ok : VV → Prop
  | .w l => l.length ≤ 100 ∧ ∀ c ∈ l, c ∈ S0
  | _ => True
def VV.lt : VV → VV → Bool
  | .n, .n => false
  | .n, _ => true
  | _, .n => false
  | .i a, .i b => decide (a < b)
  | .i _, _ => true
  | _, .i _ => false
  | .w a, .w b => decide (a < b)
theorem lt_at {a b : List Nat} {i : Nat} (ha : i < a.length) (hb : i < b.length) (hp : ∀ j (h : j < i), a[j]'(by omega) = b[j]'(by omega)) (hne : a[i] ≠ b[i]) : a < b ↔ a[i] < b[i] := by
  constructor
  · intro h
    rw [List.lt_iff_exists] at h
    rcases h with ⟨h1, h2⟩ | ⟨k, h1, h2, h3, h4⟩
    · exfalso; apply hne
      have : a[i] = (b.take a.length)[i]'(by simp; omega) := by simp only [← h1]
      rw [this]; simp
    · rcases Nat.lt_trichotomy k i with q | q | q
      · have := hp k q; omega
      · subst q; exact h4
      · exact absurd (h3 i q) hne
  · intro h
    rw [List.lt_iff_exists]
    exact .inr ⟨i, ha, hb, fun j hj => hp j hj, h⟩
theorem lt_end {a b : List Nat} (hp : ∀ j (h1 : j < a.length) (h2 : j < b.length), a[j] = b[j]) : a < b ↔ a.length < b.length := by
  constructor
  · intro h
    rw [List.lt_iff_exists] at h
    rcases h with ⟨h1, h2⟩ | ⟨k, h1, h2, h3, h4⟩
    · exact h2
    · have := hp k h1 h2; omega
  · intro h
    rw [List.lt_iff_exists]
    refine .inl ⟨List.ext_getElem (by simp; omega) fun j h1 h2 => ?_, h⟩
    simp only [List.getElem_take]
    exact hp j h1 (by omega)
theorem ahead_w {a b : List Nat} (la : a.length ≤ 100) (lb : b.length ≤ 100) (oa : ∀ c ∈ a, c ∈ S0) (ob : ∀ c ∈ b, c ∈ S0) : g__law_ahead [.str ⟨a.toArray⟩, .str ⟨b.toArray⟩] = .ok (.bool (decide (a < b))) := by
  refine runF_ret ?_
  have e1 := len_ch (l := a) (by omega)
  have e2 := len_ch (l := b) (by omega)
  have er := rng1_n (min a.length b.length) (by omega)
  have hloop := forL_ixR (bnd := bName 3) (body := b__law_ahead_8) (fun (i : Nat) => PyData.int (i : Int)) (fun i ρ => (∃ k, ρ = [some (.str ⟨a.toArray⟩), some (.str ⟨b.toArray⟩), some (.str "0123456789abcdefghijklmnopqrstuvwxyz"), k]) ∧ ∀ j (h : j < i) (h1 : j < a.length) (h2 : j < b.length), a[j] = b[j]) (fun d => d = .bool (decide (a < b)))
    (List.range (min a.length b.length)) [some (.str ⟨a.toArray⟩), some (.str ⟨b.toArray⟩), some (.str "0123456789abcdefghijklmnopqrstuvwxyz"), none] ⟨⟨none, rfl⟩, fun j h => by omega⟩ (fun i x ρ hx ⟨⟨k, e⟩, hj⟩ => by
      subst e
      obtain ⟨hi, ej⟩ := List.getElem?_eq_some_iff.mp hx
      rw [List.getElem_range] at ej
      subst ej
      simp only [List.length_range] at hi
      have ha : i < a.length := by omega
      have hb : i < b.length := by omega
      have x1 : ixD (.str ⟨a.toArray⟩) (.int i) = .ok (ch a[i]) := ix_ch (by omega) (by omega) (by simp [ha])
      have x2 : ixD (.str ⟨b.toArray⟩) (.int i) = .ok (ch b[i]) := ix_ch (by omega) (by omega) (by simp [hb])
      have x3 : neD (ch a[i]) (ch b[i]) = .ok (.bool (!decide (a[i] = b[i]))) := by rw [ch_str, ch_str, ne_ch]; simp
      have x4 : ∀ c, findS "0123456789abcdefghijklmnopqrstuvwxyz" (ch c) = .ok (.int (Txt.find ⟨S0.toArray⟩ ⟨#[c]⟩)) := fun c => by rw [signs_e]; rfl
      refine ⟨_, rfl, ?_⟩
      generalize PyData.str ⟨a.toArray⟩ = A at *
      generalize PyData.str ⟨b.toArray⟩ = B at *
      by_cases q : a[i] = b[i]
      · refine .inl ⟨_, .inl ?_, ⟨some (.int i), rfl⟩, fun j h h1 h2 => ?_⟩
        · rw [decide_eq_true q] at x3
          generalize ch a[i] = ca at *
          generalize ch b[i] = cb at *
          simp -implicitDefEqProofs [b__law_ahead_8, x1, x2, x3]
        · by_cases hji : j = i
          · subst hji; exact q
          · exact hj j (by omega) h1 h2
      · refine .inr ⟨_, ?_, rfl⟩
        have hlt := lt_at ha hb (fun j h => hj j h (by omega) (by omega)) q
        have hf := find_lt (oa _ (List.getElem_mem ha)) (ob _ (List.getElem_mem hb))
        have x5 := x4 a[i]
        have x6 := x4 b[i]
        clear x4
        rw [decide_eq_false q] at x3
        have hq : decide (Txt.find ⟨S0.toArray⟩ ⟨#[a[i]]⟩ < Txt.find ⟨S0.toArray⟩ ⟨#[b[i]]⟩) = decide (a < b) := decide_eq_decide.mpr (hf.trans hlt.symm)
        generalize Txt.find ⟨S0.toArray⟩ ⟨#[a[i]]⟩ = fa at *
        generalize Txt.find ⟨S0.toArray⟩ ⟨#[b[i]]⟩ = fb at *
        clear hlt hf
        generalize decide (a < b) = ab at *
        generalize ch a[i] = ca at *
        generalize ch b[i] = cb at *
        simp -implicitDefEqProofs [b__law_ahead_8, x1, x2, x3, x5, x6, hq])
  have e0 : minF [.int a.length, .int b.length] = .ok (.int (min a.length b.length : Nat)) := by
    rw [minF_2, show min (a.length : Int) b.length = ((min a.length b.length : Nat) : Int) by omega]
  have i1 : isD (.str ⟨a.toArray⟩) .none = .ok (.bool false) := rfl
  have i2 : isD (.str ⟨b.toArray⟩) .none = .ok (.bool false) := rfl
  have i3 : isiD "int" (.str ⟨a.toArray⟩) = false := rfl
  have i4 : isiD "int" (.str ⟨b.toArray⟩) = false := rfl
  generalize PyData.str ⟨a.toArray⟩ = A at *
  generalize PyData.str ⟨b.toArray⟩ = B at *
  rcases hloop with ⟨ρ2, e, ⟨k, rfl⟩, hj⟩ | ⟨d, e, rfl⟩
  · have hend := lt_end (a := a) (b := b) fun j h1 h2 => hj j (by simp; omega) h1 h2
    simp -implicitDefEqProofs [m__law_ahead, t__law_ahead_3, t__law_ahead_7, t__law_ahead_8, t__law_ahead_11, i1, i2, i3, i4, e1, e2, e0, er, e, hend, -rng1_e, -minF_2]
  · simp -implicitDefEqProofs [m__law_ahead, t__law_ahead_3, t__law_ahead_7, t__law_ahead_8, t__law_ahead_11, i1, i2, i3, i4, e1, e2, e0, er, e, -rng1_e, -minF_2]
theorem ahead_eq {a b : VV} (ha : a.ok) (hb : b.ok) : g__law_ahead [a.enc, b.enc] = .ok (.bool (a.lt b)) := by
  cases a <;> cases b <;> first
    | exact ahead_w ha.1 hb.1 ha.2 hb.2
    | (refine runF_ret ?_; simp [m__law_ahead, t__law_ahead_3, t__law_ahead_6, VV.enc, VV.lt, isD, isNotD, isiD])
theorem whole_n : g_is_whole [.none] = .ok (.bool false) := by refine runF_ret ?_; simp [m_is_whole, isiD]
theorem whole_i (z : Int) : g_is_whole [.int z] = .ok (.bool true) := by refine runF_ret ?_; simp [m_is_whole, isiD]
theorem whole_s (z : Str) : g_is_whole [.str z] = .ok (.bool false) := by refine runF_ret ?_; simp [m_is_whole, isiD]
theorem rank_n : g_rank [.none] = .ok (.int 0) := by refine runF_ret ?_; simp [m_rank, isD]
theorem rank_i (z : Int) : g_rank [.int z] = .ok (.int 1) := by refine runF_ret ?_; simp -implicitDefEqProofs [m_rank, t_rank_3, isD, whole_i]
theorem rank_s (z : Str) : g_rank [.str z] = .ok (.int 2) := by refine runF_ret ?_; simp -implicitDefEqProofs [m_rank, t_rank_3, t_rank_5, isD, whole_s]
theorem before_eq {a b : VV} : g_value_before [a.enc, b.enc] = .ok (.bool (a.lt b)) := by
  refine runF_ret ?_
  cases a <;> cases b <;> simp -implicitDefEqProofs [m_value_before, t_value_before_3, t_value_before_5, VV.enc, VV.lt, isD, rank_n, rank_i, rank_s]
theorem S0_ix {j : Int} (h : 0 ≤ j) (h2 : j < 36) : ∃ c, c ∈ S0 ∧ ixD (.str "0123456789abcdefghijklmnopqrstuvwxyz") (.int j) = .ok (ch c) := by
  have hl : j.toNat < S0.length := by rw [S0_len]; omega
  refine ⟨S0[j.toNat], List.getElem_mem hl, ?_⟩
  rw [signs_e]
  exact ix_ch h (by decide +kernel) (List.getElem?_eq_getElem hl)
theorem app_ok {w : List Nat} {c : Nat} (hw : ∀ x ∈ w, x ∈ S0) (hc : c ∈ S0) : ∀ x ∈ w ++ [c], x ∈ S0 := fun x h => by
  rcases List.mem_append.mp h with h | h
  · exact hw x h
  · rw [List.mem_singleton.mp h]; exact hc
theorem add_c {w : List Nat} {c : Nat} (h : w.length ≤ 1000) : addD (.str ⟨w.toArray⟩) (ch c) = .ok (.str ⟨(w ++ [c]).toArray⟩) := by rw [ch_str, add_ch (by simp; omega)]
def Things (ts : List VV) : Prop := ts.length = 8 ∧ (∀ t ∈ ts, t.ok)
theorem run16 {S G C K : Option D} {z : Int} {w lg : List Nat} {c : Nat} {at_ : Nat} (hw : w.length ≤ 12) (ow : ∀ x ∈ w, x ∈ S0) (hl : lg.length ≤ 13) (ol : ∀ x ∈ lg, x ∈ S0) (hc : c ∈ S0) :
    ∃ ts, Things ts ∧ t__law_things_16 [S, some (.int z), G, C, some (.str ⟨w.toArray⟩), K, some (.int at_), some (ch c), some (.str ⟨lg.toArray⟩)] = .ret (.list (ts.map VV.enc)) := by
  have s1 : slD (.str ⟨w.toArray⟩) none (some (at_ : Int)) = .ok (.str ⟨(w.take at_).toArray⟩) := by rw [sl_ch (by omega), cutG_np (by omega)]; rfl
  have s2 : slD (.str ⟨w.toArray⟩) (some ((at_ : Int) + 1)) none = .ok (.str ⟨(w.drop (at_ + 1)).toArray⟩) := by rw [sl_ch (by omega), cutG_pn (by omega)]; rfl
  have a1 : addD (.str ⟨(w.take at_).toArray⟩) (ch c) = .ok (.str ⟨(w.take at_ ++ [c]).toArray⟩) := add_c (by simp; omega)
  have a2 : addD (.str ⟨(w.take at_ ++ [c]).toArray⟩) (.str ⟨(w.drop (at_ + 1)).toArray⟩) = .ok (.str ⟨(w.take at_ ++ [c] ++ w.drop (at_ + 1)).toArray⟩) := add_ch (by simp; omega)
  have ho : ∀ x ∈ w.take at_ ++ [c] ++ w.drop (at_ + 1), x ∈ S0 := fun x h => by
    rcases List.mem_append.mp h with h | h
    · exact app_ok (fun x h => ow x (List.mem_of_mem_take h)) hc x h
    · exact ow x (List.mem_of_mem_drop h)
  have hlen : (w.take at_ ++ [c] ++ w.drop (at_ + 1)).length ≤ 100 := by simp; omega
  generalize w.take at_ ++ [c] ++ w.drop (at_ + 1) = w2 at *
  have m1 : mulD (.int 10) (.int z) = .ok (.int (10 * z)) := mulD_l (by omega) (by omega)
  refine ⟨[.i z, .w w, .n, .w w2, .i (z + 1), .w lg, .i (0 - z), .i (10 * z)], ⟨rfl, fun t ht => ?_⟩, ?_⟩
  · simp only [List.mem_cons, List.not_mem_nil, or_false] at ht
    rcases ht with rfl | rfl | rfl | rfl | rfl | rfl | rfl | rfl
    · trivial
    · exact ⟨by omega, ow⟩
    · trivial
    · exact ⟨hlen, ho⟩
    · trivial
    · exact ⟨by omega, ol⟩
    · trivial
    · trivial
  · have ml : ∀ ds : List D, ds.length = 8 → mkLst ds = .ok (.list ds) := fun ds h => mkLst_ok (small (by omega))
    simp -implicitDefEqProofs [t__law_things_16, s1, s2, a1, a2, m1, ml, VV.enc]
theorem run15 {ns : List Int} {C K : Option D} {z : Int} {w : List Nat} {c : Nat} {at_ : Nat} {y : Option D} (hw : w.length ≤ 12) (ow : ∀ x ∈ w, x ∈ S0) (hc : c ∈ S0) :
    ∃ ts, Things ts ∧ t__law_things_15 [some (.list (ns.map .int)), some (.int z), some (.str "0123456789abcdefghijklmnopqrstuvwxyz"), C, some (.str ⟨w.toArray⟩), K, some (.int at_), some (ch c), y] = .ret (.list (ts.map VV.enc)) := by
  have e1 := cell_at ns 4 (by decide)
  generalize cell ns (4 : Int).toNat = q at e1
  obtain ⟨d, hd, e2⟩ := S0_ix (j := q / 35 % 36) (by omega) (by omega)
  have a1 : addD (.str ⟨w.toArray⟩) (ch d) = .ok (.str ⟨(w ++ [d]).toArray⟩) := add_c (by omega)
  obtain ⟨ts, ht, r⟩ := run16 (S := some (.list (ns.map .int))) (G := some (.str "0123456789abcdefghijklmnopqrstuvwxyz")) (C := C) (K := K) (z := z) (at_ := at_) hw ow (by simp; omega) (app_ok ow hd) hc
  refine ⟨ts, ht, ?_⟩
  rw [← r]
  simp -implicitDefEqProofs [t__law_things_15, e1, fdivD_i, modD_i, e2, a1]
theorem run12 {ns : List Int} {K : Option D} {z cl : Int} {w : List Nat} {at_ : Nat} {y y2 : Option D} (hw : w.length ≤ 12) (ow : ∀ x ∈ w, x ∈ S0) (ha : at_ < w.length) :
    ∃ ts, Things ts ∧ t__law_things_12 [some (.list (ns.map .int)), some (.int z), some (.str "0123456789abcdefghijklmnopqrstuvwxyz"), some (.int cl), some (.str ⟨w.toArray⟩), K, some (.int at_), y, y2] = .ret (.list (ts.map VV.enc)) := by
  have e1 := cell_at ns 4 (by decide)
  generalize cell ns (4 : Int).toNat = q at e1
  have x1 : ixD (.str ⟨w.toArray⟩) (.int at_) = .ok (ch w[at_]) := ix_ch (by omega) (by omega) (by simp [ha])
  have x2 : findS "0123456789abcdefghijklmnopqrstuvwxyz" (ch w[at_]) = .ok (.int (Txt.find "0123456789abcdefghijklmnopqrstuvwxyz" ⟨#[w[at_]]⟩)) := rfl
  generalize Txt.find "0123456789abcdefghijklmnopqrstuvwxyz" ⟨#[w[at_]]⟩ = f at x2
  generalize ch w[at_] = cw at *
  obtain ⟨d, hd, e2⟩ := S0_ix (j := (f + 1 + q % 35) % 36) (by omega) (by omega)
  obtain ⟨d', hd', e2'⟩ := S0_ix (j := 10 + (cl + 1 + q % 25) % 26) (by omega) (by omega)
  obtain ⟨ts, ht, r⟩ := run15 (ns := ns) (C := some (.int cl)) (K := K) (z := z) (at_ := at_) (y := y2) hw ow hd
  obtain ⟨ts', ht', r'⟩ := run15 (ns := ns) (C := some (.int cl)) (K := K) (z := z) (at_ := at_) (y := y2) hw ow hd'
  generalize PyData.str ⟨w.toArray⟩ = W at *
  by_cases h0 : at_ = 0
  · refine ⟨ts', ht', ?_⟩
    rw [← r']
    have z0 : eqD (.int (at_ : Int)) (.int 0) = .ok (.bool true) := by rw [eqD_ii]; simp [h0]
    simp -implicitDefEqProofs [t__law_things_12, t__law_things_13, e1, x1, x2, fdivD_i, modD_i, e2, e2', z0, -eqD_ii]
  · refine ⟨ts, ht, ?_⟩
    rw [← r]
    simp -implicitDefEqProofs [t__law_things_12, t__law_things_13, e1, x1, x2, fdivD_i, modD_i, e2, e2', h0]
theorem run11 {ns : List Int} {K : Option D} {z cl : Int} {w : List Nat} {y y1 y2 : Option D} (hw : w.length ≤ 12) (ow : ∀ x ∈ w, x ∈ S0) (h0 : 0 < w.length) :
    ∃ ts, Things ts ∧ t__law_things_11 [some (.list (ns.map .int)), some (.int z), some (.str "0123456789abcdefghijklmnopqrstuvwxyz"), some (.int cl), some (.str ⟨w.toArray⟩), K, y1, y, y2] = .ret (.list (ts.map VV.enc)) := by
  have e1 := cell_at ns 3 (by decide)
  generalize cell ns (3 : Int).toNat = q at e1
  have el := len_ch (l := w) (by omega)
  have p1 := Int.emod_nonneg (q / 11) (b := (w.length : Int)) (by omega)
  have p2 := Int.emod_lt_of_pos (q / 11) (b := (w.length : Int)) (by omega)
  have e2 : modD (.int (q / 11)) (.int w.length) = .ok (.int (q / 11 % (w.length : Int)).toNat) := by rw [modD_i (by omega)]; congr 2; omega
  obtain ⟨ts, ht, r⟩ := run12 (ns := ns) (K := K) (z := z) (cl := cl) (at_ := (q / 11 % (w.length : Int)).toNat) (y := y) (y2 := y2) hw ow (by omega)
  refine ⟨ts, ht, ?_⟩
  rw [← r]
  generalize PyData.str ⟨w.toArray⟩ = W at *
  generalize (((q / 11 % (w.length : Int)).toNat : Nat) : Int) = ai at *
  simp -implicitDefEqProofs [t__law_things_11, e1, fdivD_i, el, e2]
theorem run8 {ns : List Int} {z cl : Int} {y0 y y1 y2 : Option D} : ∃ ts, Things ts ∧ t__law_things_8 [some (.list (ns.map .int)), some (.int z), some (.str "0123456789abcdefghijklmnopqrstuvwxyz"), some (.int cl), y0, none, y1, y, y2] = .ret (.list (ts.map VV.enc)) := by
  have e1 := cell_at ns 3 (by decide)
  generalize cell ns (3 : Int).toNat = q at e1
  obtain ⟨c0, hc0, e0⟩ := S0_ix (j := 10 + cl % 26) (by omega) (by omega)
  have er := rng1_n (q % 11).toNat (by omega)
  rw [show (((q % 11).toNat : Nat) : Int) = q % 11 by omega] at er
  obtain ⟨ρ2, eloop, w, k, hl, hw, rfl⟩ := forL_ix (bnd := bName 5) (body := b__law_things_9) (fun (i : Nat) => PyData.int (i : Int)) (fun i ρ => ∃ (w : List Nat) (k : Option D), w.length = i + 1 ∧ (∀ x ∈ w, x ∈ S0) ∧ ρ = [some (.list (ns.map .int)), some (.int z), some (.str "0123456789abcdefghijklmnopqrstuvwxyz"), some (.int cl), some (.str ⟨w.toArray⟩), k, y1, y, y2])
    (List.range (q % 11).toNat) [some (.list (ns.map .int)), some (.int z), some (.str "0123456789abcdefghijklmnopqrstuvwxyz"), some (.int cl), some (ch c0), none, y1, y, y2] ⟨[c0], none, rfl, fun x h => (List.mem_singleton.mp h) ▸ hc0, rfl⟩ (fun i x ρ hx ⟨w, k, hl, hw, e⟩ => by
      subst e
      obtain ⟨hi, ej⟩ := List.getElem?_eq_some_iff.mp hx
      rw [List.getElem_range] at ej
      subst ej
      simp only [List.length_range] at hi
      obtain ⟨c, hc, e2⟩ := S0_ix (j := (cl / ((i : Int) + 3) + i * i) % 36) (by omega) (by omega)
      have e3 : fdivD (.int cl) (.int ((i : Int) + 3)) = .ok (.int (cl / ((i : Int) + 3))) := fdivD_i (by omega) (by omega)
      have e4 : mulD (.int i) (.int i) = .ok (.int (i * i)) := mulD_l (by omega) (by omega)
      have a1 : addD (.str ⟨w.toArray⟩) (ch c) = .ok (.str ⟨(w ++ [c]).toArray⟩) := add_c (by omega)
      refine ⟨_, _, rfl, .inl ?_, w ++ [c], some (.int i), by simp [hl], app_ok hw hc, rfl⟩
      generalize PyData.str ⟨w.toArray⟩ = W at *
      simp -implicitDefEqProofs [b__law_things_9, e3, e4, modD_i, e2, a1])
  simp only [List.length_range] at hl
  obtain ⟨ts, ht, r⟩ := run11 (ns := ns) (K := k) (z := z) (cl := cl) (w := w) (y1 := y1) (y := y) (y2 := y2) (by omega) hw (by omega)
  refine ⟨ts, ht, ?_⟩
  rw [← r]
  generalize PyData.str ⟨w.toArray⟩ = W at *
  generalize (List.range (q % 11).toNat).map (fun (i : Nat) => PyData.int (i : Int)) = R at *
  simp -implicitDefEqProofs [t__law_things_8, t__law_things_9, modD_i, e0, e1, er, eloop, -rng1_e]
theorem things_eq (ns : List Int) : ∃ ts, Things ts ∧ g__law_things [.list (ns.map .int)] = .ok (.list (ts.map VV.enc)) := by
  have ec0 := cell_at ns 0 (by decide)
  have ec1 := cell_at ns 1 (by decide)
  have ec2 := cell_at ns 2 (by decide)
  have hr := @run8 ns
  generalize cell ns (0 : Int).toNat = a at ec0
  generalize cell ns (1 : Int).toNat = b at ec1
  generalize cell ns (2 : Int).toNat = c at ec2
  generalize PyData.list (ns.map .int) = S at *
  have e3 : powD (.int 10) (.int 59) = .ok (.int (10 ^ 59)) := powD_i (by omega) (by omega) (by decide)
  have e4 : modD (.int a) (.int (10 ^ 59)) = .ok (.int (a % 10 ^ 59)) := modD_i (by decide)
  generalize (10 ^ 59 : Int) = T at *
  have h6 : ∀ z : Int, ∃ ts, Things ts ∧ t__law_things_6 [some S, some (.int z), none, none, none, none, none, none, none] = .ret (.list (ts.map VV.enc)) := fun z => by
    obtain ⟨ts, ht, r⟩ := @hr z c none none none none
    refine ⟨ts, ht, ?_⟩
    rw [← r]
    simp -implicitDefEqProofs [t__law_things_6, t__law_things_7, ec2]
  have h4 : ∀ z : Int, ∃ ts, Things ts ∧ t__law_things_4 [some S, some (.int z), none, none, none, none, none, none, none] = .ret (.list (ts.map VV.enc)) := fun z => by
    by_cases h : b / 3 % 2 = 1
    · obtain ⟨ts, ht, r⟩ := h6 (0 - z)
      refine ⟨ts, ht, ?_⟩
      rw [← r]
      simp -implicitDefEqProofs [t__law_things_4, ec1, fdivD_i, modD_i, h]
    · obtain ⟨ts, ht, r⟩ := h6 z
      refine ⟨ts, ht, ?_⟩
      rw [← r]
      simp -implicitDefEqProofs [t__law_things_4, ec1, fdivD_i, modD_i, h]
  by_cases h : b % 3 = 0
  · obtain ⟨ts, ht, r⟩ := h4 (a % T % 12)
    refine ⟨ts, ht, runF_ret ?_⟩
    rw [← r]
    simp -implicitDefEqProofs [m__law_things, t__law_things_2, ec0, ec1, e3, e4, modD_i, h]
  · obtain ⟨ts, ht, r⟩ := h4 (a % T)
    refine ⟨ts, ht, runF_ret ?_⟩
    rw [← r]
    simp -implicitDefEqProofs [m__law_things, t__law_things_2, ec0, ec1, e3, e4, modD_i, h]
theorem run7 {S T : D} {a b : VV} {x y : Option D} (ha : a.ok) (hb : b.ok) : t_law_7 [some S, some T, some a.enc, some b.enc, x, y] = .ret (.bool true) := by
  have e1 := @before_eq a b
  have e2 := @before_eq b a
  have e3 := ahead_eq ha hb
  have e4 := ahead_eq hb ha
  generalize a.enc = A at *
  generalize b.enc = B at *
  simp -implicitDefEqProofs [t_law_7, t_law_8, t_law_9, t_law_11, e1, e2, e3, e4, isiD]
theorem law_true : ∀ ns : List Int, ns.length ≤ 63 → g_law [.list (ns.map .int)] = .ok (.bool true) := by
  intro ns hl
  refine runF_ret ?_
  obtain ⟨ts, ⟨hl, ho⟩, et⟩ := things_eq ns
  have ec5 := cell_at ns 5 (by decide)
  have ec6 := cell_at ns 6 (by decide)
  generalize cell ns (5 : Int).toNat = a at ec5
  generalize cell ns (6 : Int).toNat = b at ec6
  have ix : ∀ j : Int, 0 ≤ j → j < 8 → ∃ t, VV.ok t ∧ ixD (.list (ts.map VV.enc)) (.int j) = .ok t.enc := fun j h1 h2 => by
    have h3 : j.toNat < ts.length := by omega
    exact ⟨ts[j.toNat], ho _ (List.getElem_mem h3), ixD_l h1 (by simp [h3])⟩
  obtain ⟨t1, o1, e1⟩ := ix (a % 8) (by omega) (by omega)
  obtain ⟨t2, o2, e2⟩ := ix (b % 8) (by omega) (by omega)
  obtain ⟨t3, o3, e3⟩ := ix 1 (by omega) (by omega)
  obtain ⟨t4, o4, e4⟩ := ix 3 (by omega) (by omega)
  obtain ⟨t5, o5, e5⟩ := ix 5 (by omega) (by omega)
  have hr := @run7
  generalize PyData.list (ns.map .int) = S at *
  generalize PyData.list (ts.map VV.enc) = T at *
  by_cases h : b / 8 % 3 = 0
  · have e6 : ∃ t, VV.ok t ∧ ixD (.list [t4.enc, t5.enc]) (.int (b / 24 % 2)) = .ok t.enc := by
      have : b / 24 % 2 = 0 ∨ b / 24 % 2 = 1 := by omega
      rcases this with q | q <;> rw [q]
      · exact ⟨t4, o4, ixD_l0⟩
      · exact ⟨t5, o5, ixD_l1⟩
    obtain ⟨t6, o6, e6⟩ := e6
    have r := @hr S T t3 t6 none none o3 o6
    simp -implicitDefEqProofs [m_law, t_law_2, t_law_3, t_law_4, t_law_6, et, ec5, ec6, modD_i, fdivD_i, e1, e2, e3, e4, e5, e6, h, r]
  · have r := @hr S T t1 t2 none none o1 o2
    simp -implicitDefEqProofs [m_law, t_law_2, t_law_3, t_law_4, et, ec5, ec6, modD_i, fdivD_i, e1, e2, h, r]

end LK
open PySem PySem.W PyProof.Rows
set_option maxRecDepth 100000 in
set_option maxHeartbeats 0 in
theorem PySem.Challenge.cw_cubebook_k02_one_value_ahead_holds : PySem.Challenge.rw_cubebook_k02_one_value_ahead.Holds := by
  w_on; o_law; k_head; (case hw => w_witness2)
  k_fill
  refine MV.law_walk (l := PySem.Challenge.rw_cubebook_k02_one_value_ahead) (k := 4) (x := "_law_script") LK.g_law rfl rfl ⟨rfl, by decide, by decide⟩ (fun w h Y => PySem.W.kIn_of Y) (fun w h KX => rfl) LK.law_true ?F
  case F =>
    intro w mg fa h KX G hmg
    refine' LK.all_mk KX G hmg ?a1 ?l1 ?d1 ?k1 ?a2 ?l2 ?d2 ?k2 ?a3 ?l3 ?d3 ?k3 ?a4 ?l4 ?d4 ?k4 ?a5 ?l5 ?d5 ?k5 ?a6 ?l6 ?d6 ?k6 ?a7 ?l7 ?d7 ?k7 ?z_bool ?z_int ?z_isinstance ?z_len ?z_min ?z_range
    (case a1 => k_is); (case l1 => k_is); (case d1 => k_is); (case k1 => k_is)
    (case a2 => k_is); (case l2 => k_is); (case d2 => k_is); (case k2 => k_is)
    (case a3 => k_is); (case l3 => k_is); (case d3 => k_is); (case k3 => k_is)
    (case a4 => k_is); (case l4 => k_is); (case d4 => k_is); (case k4 => k_is)
    (case a5 => k_is); (case l5 => k_is); (case d5 => k_is); (case k5 => k_is)
    (case a6 => k_is); (case l6 => k_is); (case d6 => k_is); (case k6 => k_is)
    (case a7 => k_is); (case l7 => k_is); (case d7 => k_is); (case k7 => k_is)
    (case z_bool => k_is); (case z_int => k_is); (case z_isinstance => k_is); (case z_len => k_is)
    (case z_min => k_is); (case z_range => k_is)
