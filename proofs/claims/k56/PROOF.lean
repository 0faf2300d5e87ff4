import PyProof.Rows.All
import Wide.All
import OpenK.AllK
import Wide.FinOn
import HandS.ForMost
import HandS.ForExc
import HandS.Deep
import HandS.Wide
import HandS.Dict
import KE.KDictKeyed
import HandS.ExcCtx
import HandS.SetKeys
import HandS.TupAny
import HandS.TupLe
import KE.LtData
import HandS.IsInst
import HandS.Conv
import HandS.SortInts
import HandS.RaiseMore
import HandS.Zip
import HandS.ForDict
import HandS.StrMore
import HandS.MapJoin
import KE.SortKeyHeap
import HandS.SortKw
import HandS.More
import KE.GoesMore
import KE.KDictZip
import KE.KItemsList
import HandS.Text
import HandS.ExcIs
import HandS.ExcOwn
import HandS.HeadHook1
import HandS.Hot
import PyProof.StrBlock2
import KE.KDictCopyH
import KE.GoesRaise
import PyProof.DictDisplay
import HandS.TupMul
import PySem.Challenge.RW_cubebook_k56_refused_books
set_option Elab.async false
set_option linter.all false
set_option maxRecDepth 100000
set_option maxHeartbeats 4000000
set_option Elab.async false
set_option linter.all false
set_option maxRecDepth 100000
set_option maxHeartbeats 4000000
/-! MV: a value layer over the hand layer: data as PyData, a mirror for each def, own lists by ownership. -/
namespace MV
open PySem L2

abbrev D := PyData
abbrev Env := List (Option D)

inductive R (α : Type) where
  | ok (a : α)
  | exc (n : Str)
  | stuck
def R.bind {α β : Type} : R α → (α → R β) → R β
  | .ok a, f => f a
  | .exc n, _ => .exc n
  | .stuck, _ => .stuck
@[simp] theorem R.bind_ok {α β : Type} (a : α) (f : α → R β) : (R.ok a).bind f = f a := rfl
@[simp] theorem R.bind_exc {α β : Type} (n : Str) (f : α → R β) : (R.exc n).bind f = .exc n := rfl
@[simp] theorem R.bind_stuck {α β : Type} (f : α → R β) : (R.stuck : R α).bind f = .stuck := rfl

/-! ### data in the heap -/
def SLo (O : List Addr) (H : Hp) (a : Addr) (xs : List V) : Prop := a ∉ O ∧ Rd H a (.lst xs)
def STo (O : List Addr) (H : Hp) (a : Addr) (xs : List V) : Prop := a ∉ O ∧ H a = some (.tup xs)

/-- what a relation leans on: what is known, the program, the world -/
structure Fr where
  K : PySem.W.Frag
  P : Program
  w : World
  mg : Str → Option Value
instance : Coe Fr PySem.W.Frag := ⟨Fr.K⟩
abbrev _root_.L2.Cx.fr (X : L2.Cx) : Fr := ⟨X.K, X.prog, X.w, X.mg⟩
/-! ### keys of dicts -/
mutual
def keyN : PyData → NestedKey
  | .none => .none
  | .bool _ => .none
  | .int i => .num i
  | .str x => .text x
  | .list _ => .none
  | .tuple ds => .tup (keyNs ds)
  | .dict _ => .none
def keyNs : List PyData → List NestedKey
  | [] => []
  | d :: ds => keyN d :: keyNs ds
end
def leafy : PyData → Bool
  | .none => true
  | .int _ => true
  | .str _ => true
  | _ => false
def lfK : PyData → Leaf
  | .int i => .num i
  | .str x => .text x
  | _ => .none
/-- a key: none, ints, texts, tuples of them -/
def kyb : Nat → PyData → Bool
  | _, .none => true
  | _, .int _ => true
  | _, .str _ => true
  | n + 1, .tuple ds => ds.all (kyb n)
  | _, _ => false
/-- the dict at p: its entries (the key as data, the key, the value) -/
def DrOk (F : Fr) (p : Addr) (es : List (PyData × V × V)) (h : Heap) : Prop :=
  es.length ≤ sizeLine ∧ (p == sysModules) = false ∧ (es.map fun e => keyN e.1).Nodup ∧
  ∃ o raw ep, h.get? p = some o ∧ o.ExactDict ∧ o.data = .dict raw ep ∧ Paired (fun (e : PyData × V × V) (r : DictEntry) => RelV e.2.1 r.key ∧ RelV e.2.2 r.val ∧ r.hash = (keyN e.1).hash F.w) es raw.toList
def dR (F : Fr) (p : Addr) (es : List (PyData × V × V)) : HO := .ext (DrOk F p es)
/-- plain data, not too deep, without dicts -/
def shp : Nat → PyData → Bool
  | _, .none => true
  | _, .bool _ => true
  | _, .int _ => true
  | _, .str _ => true
  | _, .dict _ => false
  | 0, .list _ => false
  | 0, .tuple _ => false
  | n + 1, .list ds => ds.all (shp n)
  | n + 1, .tuple ds => ds.all (shp n)

mutual
inductive Rp (K : Fr) (O : List Addr) (H : Hp) : V → PyData → Prop
  | non : Rp K O H .non .none
  | bl (b : Bool) : Rp K O H (.bl b) (.bool b)
  | int (i : Int) : Rp K O H (.int i) (.int i)
  | str (x : Str) : PyData.strOk x = true → Rp K O H (.str x) (.str x)
  | lst {a : Addr} {xs : List V} {ds : List PyData} : SLo O H a xs → RpAll K O H xs ds → Rp K O H (.ref a) (.list ds)
  | tup {a : Addr} {xs : List V} {ds : List PyData} : STo O H a xs → RpAll K O H xs ds → Rp K O H (.ref a) (.tuple ds)
  | dct {a : Addr} {vs : List (PyData × V × V)} {kvs : List (PyData × PyData)} : a ∉ O → H a = some (dR K a vs) → RpKv K O H vs kvs → Rp K O H (.ref a) (.dict kvs)
inductive RpAll (K : Fr) (O : List Addr) (H : Hp) : List V → List PyData → Prop
  | nil : RpAll K O H [] []
  | cons {v : V} {vs : List V} {d : PyData} {ds : List PyData} : Rp K O H v d → RpAll K O H vs ds → RpAll K O H (v :: vs) (d :: ds)
inductive RpKv (K : Fr) (O : List Addr) (H : Hp) : List (PyData × V × V) → List (PyData × PyData) → Prop
  | nil : RpKv K O H [] []
  | cons {x v : V} {vs : List (PyData × V × V)} {k d : PyData} {ds : List (PyData × PyData)} : kyb 8 k = true → Rp K O H x k → Rp K O H v d → RpKv K O H vs ds → RpKv K O H ((k, x, v) :: vs) ((k, d) :: ds)
end
section
variable {K : Fr} {O O' : List Addr} {H H' : Hp}
mutual
theorem Rp.dp : ∀ (n : Nat) (d : PyData) (v : V), shp n d = true → Rp K O H v d → Dp K H v d
  | _, .none, _, _, h => by cases h; exact .non
  | _, .bool b, _, _, h => by cases h; exact .bl b
  | _, .int i, _, _, h => by cases h; exact .int i
  | _, .str x, _, _, h => by cases h; exact .str x
  | 0, .list ds, _, s, h => by simp [shp] at s
  | 0, .tuple ds, _, s, h => by simp [shp] at s
  | n + 1, .list ds, _, s, h => by cases h with | lst hs ha => exact .lst (.inl hs.2) (RpAll.dp n ds _ (by simpa [shp] using s) ha)
  | n + 1, .tuple ds, _, s, h => by cases h with | tup hs ha => exact .tup (.inl (.inl hs.2)) (RpAll.dp n ds _ (by simpa [shp] using s) ha)
  | _, .dict _, _, s, h => by simp [shp] at s
theorem RpAll.dp : ∀ (n : Nat) (ds : List PyData) (vs : List V), (∀ d ∈ ds, shp n d = true) → RpAll K O H vs ds → DpAll K H vs ds
  | _, [], _, _, h => by cases h; exact .nil
  | n, d :: ds, _, s, h => by cases h with | cons h1 h2 => exact .cons (Rp.dp n d _ (s d List.mem_cons_self) h1) (RpAll.dp n ds _ (fun x hx => s x (List.mem_cons_of_mem _ hx)) h2)
end
theorem hr_rd (hr : ∀ a u, a ∉ O → H a = some u → a ∉ O' ∧ H' a = some u) {a : Addr} {u : HO} (ho : a ∉ O) (h : Rd H a u) : a ∉ O' ∧ Rd H' a u := by
  rcases h with h | ⟨o, h⟩
  · exact ⟨(hr a _ ho h).1, .inl (hr a _ ho h).2⟩
  · exact ⟨(hr a _ ho h).1, .inr ⟨o, (hr a _ ho h).2⟩⟩
mutual
theorem Rp.map (hr : ∀ a u, a ∉ O → H a = some u → a ∉ O' ∧ H' a = some u) : ∀ (d : PyData) (v : V), Rp K O H v d → Rp K O' H' v d
  | .none, _, h => by cases h; exact .non
  | .bool b, _, h => by cases h; exact .bl b
  | .int i, _, h => by cases h; exact .int i
  | .str x, _, h => by cases h with | str _ h => exact .str x h
  | .list ds, _, h => by cases h with | lst hs ha => exact .lst (hr_rd hr hs.1 hs.2) (RpAll.map hr ds _ ha)
  | .tuple ds, _, h => by cases h with | tup hs ha => exact .tup (hr _ _ hs.1 hs.2) (RpAll.map hr ds _ ha)
  | .dict kvs, _, h => by cases h with | dct ho hd ha => exact .dct (hr _ _ ho hd).1 (hr _ _ ho hd).2 (RpKv.map hr kvs _ ha)
theorem RpAll.map (hr : ∀ a u, a ∉ O → H a = some u → a ∉ O' ∧ H' a = some u) : ∀ (ds : List PyData) (vs : List V), RpAll K O H vs ds → RpAll K O' H' vs ds
  | [], _, h => by cases h; exact .nil
  | d :: ds, _, h => by cases h with | cons h1 h2 => exact .cons (Rp.map hr d _ h1) (RpAll.map hr ds _ h2)
theorem RpKv.map (hr : ∀ a u, a ∉ O → H a = some u → a ∉ O' ∧ H' a = some u) : ∀ (ds : List (PyData × PyData)) (vs : List (PyData × V × V)), RpKv K O H vs ds → RpKv K O' H' vs ds
  | [], _, h => by cases h; exact .nil
  | (k, d) :: ds, _, h => by cases h with | cons h0 h1 h2 h3 => exact .cons h0 (Rp.map hr k _ h1) (Rp.map hr d _ h2) (RpKv.map hr ds _ h3)
end
end

/-- all that is not own is as it was -/
def Ge (O : List Addr) (H H' : Hp) : Prop := ∀ a o, a ∉ O → H a = some o → H' a = some o
theorem Ge.of_same {O : List Addr} {H H' : Hp} (h : Same H H') : Ge O H H' := fun a o _ e => h a o e
theorem Same.refl {H : Hp} : Same H H := fun _ _ e => e
theorem Same.tr {H H' H2 : Hp} (h : Same H H') (k : Same H' H2) : Same H H2 := fun a o e => k a o (h a o e)
theorem same_upd {H : Hp} {p : Addr} {o : HO} (h : H p = none) : Same H (upd H p o) := fun a u e => by rw [upd_ne (ne_of_none e h)]; exact e
theorem Rd.same {H H' : Hp} {a : Addr} {u : HO} (s : Same H H') (h : Rd H a u) : Rd H' a u := h.imp (s a _) fun ⟨o, e⟩ => ⟨o, s a _ e⟩
theorem SqL.same {K : Fr} {H H' : Hp} {a : Addr} {xs : List V} (s : Same H H') (h : SqL K H a xs) : SqL K H' a xs := h.imp (Rd.same s) id
theorem SqT.same {K : Fr} {H H' : Hp} {a : Addr} {xs : List V} (s : Same H H') (h : SqT K H a xs) : SqT K H' a xs := h.imp (Rd.same s) id
section
variable {K : Fr} {O O' : List Addr} {H H' : Hp} {v : V} {d : PyData} {vs : List V} {ds : List PyData} {p : Addr}
theorem ge_ex (g : Ge O H H') : ∀ a u, a ∉ O → H a = some u → a ∉ O ∧ H' a = some u := fun a _ ho r => ⟨ho, g a _ ho r⟩
theorem ge_rd (g : Ge O H H') : ∀ a u, a ∉ O → Rd H a u → a ∉ O ∧ Rd H' a u := fun a _ ho r => ⟨ho, r.imp (g a _ ho) fun ⟨o, e⟩ => ⟨o, g a _ ho e⟩⟩
theorem Rp.ge (g : Ge O H H') (h : Rp K O H v d) : Rp K O H' v d := Rp.map (ge_ex g) d v h
theorem RpAll.ge (g : Ge O H H') (h : RpAll K O H vs ds) : RpAll K O H' vs ds := RpAll.map (ge_ex g) ds vs h
theorem Rp.same (g : Same H H') (h : Rp K O H v d) : Rp K O H' v d := h.ge (Ge.of_same g)
theorem RpKv.ge {kvs : List (PyData × PyData)} {vs : List (PyData × V × V)} (g : Ge O H H') (h : RpKv K O H vs kvs) : RpKv K O H' vs kvs := RpKv.map (ge_ex g) kvs vs h
theorem RpKv.same {kvs : List (PyData × PyData)} {vs : List (PyData × V × V)} (g : Same H H') (h : RpKv K O H vs kvs) : RpKv K O H' vs kvs := h.ge (Ge.of_same g)
theorem RpAll.same (g : Same H H') (h : RpAll K O H vs ds) : RpAll K O H' vs ds := h.ge (Ge.of_same g)
theorem Rp.sub (g : ∀ a ∈ O', a ∈ O) (h : Rp K O H v d) : Rp K O' H v d := Rp.map (fun a u ho r => ⟨fun z => ho (g a z), r⟩) d v h
theorem RpAll.sub (g : ∀ a ∈ O', a ∈ O) (h : RpAll K O H vs ds) : RpAll K O' H vs ds := RpAll.map (fun a u ho r => ⟨fun z => ho (g a z), r⟩) ds vs h
theorem RpKv.sub {kvs : List (PyData × PyData)} {vs : List (PyData × V × V)} (g : ∀ a ∈ O', a ∈ O) (h : RpKv K O H vs kvs) : RpKv K O' H vs kvs := RpKv.map (fun a u ho r => ⟨fun z => ho (g a z), r⟩) kvs vs h
theorem Rd.ne {a : Addr} {u : HO} (r : Rd H a u) (hp : H p = none) : a ≠ p := by
  rcases r with e | ⟨_, e⟩
  · exact ne_of_none e hp
  · exact ne_of_none e hp
theorem fresh_rd (hp : H p = none) : ∀ a u, a ∉ O → H a = some u → a ∉ p :: O ∧ H a = some u := fun a u ho r => ⟨fun z => (List.mem_cons.mp z).elim (fun e => ne_of_none r hp e) ho, r⟩
theorem Rp.fresh (hp : H p = none) (h : Rp K O H v d) : Rp K (p :: O) H v d := Rp.map (fresh_rd hp) d v h
theorem RpAll.fresh (hp : H p = none) (h : RpAll K O H vs ds) : RpAll K (p :: O) H vs ds := RpAll.map (fresh_rd hp) ds vs h
theorem RpKv.fresh {kvs : List (PyData × PyData)} {vs : List (PyData × V × V)} (hp : H p = none) (h : RpKv K O H vs kvs) : RpKv K (p :: O) H vs kvs := RpKv.map (fresh_rd hp) kvs vs h
theorem RpAll.length : ∀ {vs : List V} {ds : List PyData}, RpAll K O H vs ds → vs.length = ds.length
  | _, [], h => by cases h; rfl
  | _, d :: ds, h => by cases h with | cons h1 h2 => simp [RpAll.length h2]
theorem RpAll.get : ∀ {vs : List V} {ds : List PyData} {i : Nat} {d : PyData}, RpAll K O H vs ds → ds[i]? = some d → ∃ v, vs[i]? = some v ∧ Rp K O H v d
  | _, [], _, _, h, e => by simp at e
  | _, d :: ds, 0, _, h, e => by cases h with | cons h1 h2 => simp at e; subst e; exact ⟨_, rfl, h1⟩
  | _, d :: ds, i + 1, _, h, e => by cases h with | cons h1 h2 => simpa using RpAll.get h2 (by simpa using e)
theorem RpAll.get' {vs : List V} {ds : List PyData} {i : Nat} {v : V} (h : RpAll K O H vs ds) (e : vs[i]? = some v) : ∃ d, ds[i]? = some d ∧ Rp K O H v d := by
  have hl := h.length
  obtain ⟨hi, _⟩ := List.getElem?_eq_some_iff.mp e
  have : ds[i]? = some ds[i] := List.getElem?_eq_getElem (by omega)
  obtain ⟨v', e', r⟩ := h.get this
  rw [e] at e'; cases e'
  exact ⟨_, this, r⟩
theorem RpAll.append : ∀ {vs us : List V} {ds es : List PyData}, RpAll K O H vs ds → RpAll K O H us es → RpAll K O H (vs ++ us) (ds ++ es)
  | _, _, [], _, h, k => by cases h; exact k
  | _, _, d :: ds, _, h, k => by cases h with | cons h1 h2 => exact .cons h1 (RpAll.append h2 k)
theorem RpAll.take : ∀ {vs : List V} {ds : List PyData} (n : Nat), RpAll K O H vs ds → RpAll K O H (vs.take n) (ds.take n)
  | _, [], n, h => by cases h; simp; exact .nil
  | _, d :: ds, 0, h => by simp; exact .nil
  | _, d :: ds, n + 1, h => by cases h with | cons h1 h2 => exact .cons h1 (RpAll.take n h2)
theorem RpAll.drop : ∀ {vs : List V} {ds : List PyData} (n : Nat), RpAll K O H vs ds → RpAll K O H (vs.drop n) (ds.drop n)
  | _, [], n, h => by cases h; simp; exact .nil
  | _, d :: ds, 0, h => h
  | _, d :: ds, n + 1, h => by cases h with | cons h1 h2 => exact RpAll.drop n h2
theorem RpAll.one (h : Rp K O H v d) : RpAll K O H [v] [d] := .cons h .nil
theorem RpAll.set : ∀ {vs : List V} {ds : List PyData} (i : Nat), RpAll K O H vs ds → Rp K O H v d → RpAll K O H (vs.set i v) (ds.set i d)
  | _, [], i, h, _ => by cases h; exact .nil
  | _, e :: ds, 0, h, k => by cases h with | cons h1 h2 => exact .cons k h2
  | _, e :: ds, i + 1, h, k => by cases h with | cons h1 h2 => exact .cons h1 (RpAll.set i h2 k)
end

/-! ### objects: only borrowed -/
/-- the fields of an object, in their order: frozen data, lists and dicts of it, objects -/
inductive Fd (K : Fr) (O : List Addr) (Hr H : Hp) : List (Str × V) → List (PyData × PyData) → Prop
  | nil : Fd K O Hr H [] []
  | rp {f : Str} {v : V} {d : PyData} {fs : List (Str × V)} {ds : List (PyData × PyData)} : Rp K O H v d → Fd K O Hr H fs ds → Fd K O Hr H ((f, v) :: fs) ((.str f, d) :: ds)
  | lst {f : Str} {p : Addr} {xs : List V} {es : List PyData} {fs : List (Str × V)} {ds : List (PyData × PyData)} : Rd Hr p (.lst xs) → RpAll K O H xs es → Fd K O Hr H fs ds → Fd K O Hr H ((f, .ref p) :: fs) ((.str f, .list es) :: ds)
  | dct {f : Str} {p : Addr} {vs : List (PyData × V × V)} {kvs : List (PyData × PyData)} {fs : List (Str × V)} {ds : List (PyData × PyData)} : Hr p = some (dR K p vs) → RpKv K O H vs kvs → Fd K O Hr H fs ds → Fd K O Hr H ((f, .ref p) :: fs) ((.str f, .dict kvs) :: ds)
  | ob {f c : Str} {p C dx : Addr} {gs : List (Str × V)} {es : List (PyData × PyData)} {fs : List (Str × V)} {ds : List (PyData × PyData)} : Hr p = some (.ins C dx gs) → K.mg c = some (.ref C) → Fd K O Hr H gs es → Fd K O Hr H fs ds → Fd K O Hr H ((f, .ref p) :: fs) ((.str f, .dict ((.bool true, .str c) :: es)) :: ds)
/-- an object's data: its class's name, its fields -/
def obD (c : Str) (ds : List (PyData × PyData)) : PyData := .dict ((.bool true, .str c) :: ds)
def isOb : List (PyData × PyData) → Bool
  | (.bool _, _) :: _ => true
  | _ => false
def ObAt (K : Fr) (O : List Addr) (Hr H : Hp) (p : Addr) (kvs : List (PyData × PyData)) : Prop := ∃ c ds C dx fs, kvs = (.bool true, .str c) :: ds ∧ Hr p = some (.ins C dx fs) ∧ K.mg c = some (.ref C) ∧ Fd K O Hr H fs ds
section
variable {K : Fr} {O O' : List Addr} {Hr Hr' H H' : Hp} {fs : List (Str × V)} {ds : List (PyData × PyData)} {p : Addr}
theorem Fd.ge (hr : Same Hr Hr') (g : Ge O H H') (h : Fd K O Hr H fs ds) : Fd K O Hr' H' fs ds := by
  induction h with
  | nil => exact .nil
  | rp a _ ih => exact .rp (a.ge g) ih
  | lst a b _ ih => exact .lst (Rd.same hr a) (b.ge g) ih
  | dct a b _ ih => exact .dct (hr _ _ a) (b.ge g) ih
  | ob a b _ _ i1 i2 => exact .ob (hr _ _ a) b i1 i2
theorem Fd.sub (g : ∀ a ∈ O', a ∈ O) (h : Fd K O Hr H fs ds) : Fd K O' Hr H fs ds := by
  induction h with
  | nil => exact .nil
  | rp a _ ih => exact .rp (a.sub g) ih
  | lst a b _ ih => exact .lst a (b.sub g) ih
  | dct a b _ ih => exact .dct a (b.sub g) ih
  | ob a b _ _ i1 i2 => exact .ob a b i1 i2
theorem Fd.fresh {q : Addr} (g : H q = none) (h : Fd K O Hr H fs ds) : Fd K (q :: O) Hr H fs ds := by
  induction h with
  | nil => exact .nil
  | rp a _ ih => exact .rp (a.fresh g) ih
  | lst a b _ ih => exact .lst a (b.fresh g) ih
  | dct a b _ ih => exact .dct a (b.fresh g) ih
  | ob a b _ _ i1 i2 => exact .ob a b i1 i2
theorem ObAt.ge (hr : Same Hr Hr') (g : Ge O H H') : ObAt K O Hr H p ds → ObAt K O Hr' H' p ds := fun ⟨c, es, C, dx, fs, e, h1, h2, h3⟩ => ⟨c, es, C, dx, fs, e, hr _ _ h1, h2, h3.ge hr g⟩
theorem ObAt.sub (g : ∀ a ∈ O', a ∈ O) : ObAt K O Hr H p ds → ObAt K O' Hr H p ds := fun ⟨c, es, C, dx, fs, e, h1, h2, h3⟩ => ⟨c, es, C, dx, fs, e, h1, h2, h3.sub g⟩
theorem ObAt.fresh {q : Addr} (g : H q = none) : ObAt K O Hr H p ds → ObAt K (q :: O) Hr H p ds := fun ⟨c, es, C, dx, fs, e, h1, h2, h3⟩ => ⟨c, es, C, dx, fs, e, h1, h2, h3.fresh g⟩
theorem ObAt.isOb : ObAt K O Hr H p ds → isOb ds = true := fun ⟨c, es, C, dx, fs, e, h1, h2, h3⟩ => by rw [e]; rfl
theorem rpkv_noOb {vs : List (PyData × V × V)} (h : RpKv K O H vs ds) : isOb ds = false := by
  cases h with
  | nil => rfl
  | @cons x v vs k d ds h0 h1 h2 h3 => cases k <;> first | rfl | (cases h1; simp [kyb] at h0)
end
/-! ### what a borrowed thing, an own thing is -/
/-- the root of a borrowed list: it may be own, its items are not -/
def RootAt (K : Fr) (O : List Addr) (Hr H : Hp) (p : Addr) : PyData → Prop
  | .list ds => ∃ xs, Rd Hr p (.lst xs) ∧ RpAll K O H xs ds
  | .dict kvs => (∃ vs, Hr p = some (dR K p vs) ∧ RpKv K O H vs kvs) ∨ ObAt K O Hr H p kvs
  | _ => False
def Rs (K : Fr) (O : List Addr) (Hr H : Hp) (v : V) (d : PyData) : Prop := Rp K O H v d ∨ ∃ p, v = .ref p ∧ RootAt K O Hr H p d
def OwnAt (K : Fr) (O : List Addr) (H : Hp) (p : Addr) : PyData → Prop
  | .list ds => ∃ xs, H p = some (.lst xs) ∧ RpAll K O H xs ds
  | .dict kvs => ∃ vs, H p = some (dR K p vs) ∧ RpKv K O H vs kvs
  | _ => False
section
variable {K : Fr} {O O' : List Addr} {Hr Hr' H H' : Hp} {v : V} {d : PyData} {p : Addr}
theorem RootAt.ge (hr : Same Hr Hr') (g : Ge O H H') (h : RootAt K O Hr H p d) : RootAt K O Hr' H' p d := by
  cases d <;> first | exact h.elim | skip
  · obtain ⟨xs, h1, h2⟩ := h
    exact ⟨xs, Rd.same hr h1, h2.ge g⟩
  · rcases h with ⟨xs, h1, h2⟩ | h
    · exact .inl ⟨xs, hr p _ h1, h2.ge g⟩
    · exact .inr (h.ge hr g)
theorem RootAt.sub (g : ∀ a ∈ O', a ∈ O) (h : RootAt K O Hr H p d) : RootAt K O' Hr H p d := by
  cases d <;> first | exact h.elim | skip
  · obtain ⟨xs, h1, h2⟩ := h
    exact ⟨xs, h1, h2.sub g⟩
  · rcases h with ⟨xs, h1, h2⟩ | h
    · exact .inl ⟨xs, h1, h2.sub g⟩
    · exact .inr (h.sub g)
theorem RootAt.fresh {q : Addr} (g : H q = none) (h : RootAt K O Hr H p d) : RootAt K (q :: O) Hr H p d := by
  cases d <;> first | exact h.elim | skip
  · obtain ⟨xs, h1, h2⟩ := h
    exact ⟨xs, h1, h2.fresh g⟩
  · rcases h with ⟨xs, h1, h2⟩ | h
    · exact .inl ⟨xs, h1, h2.fresh g⟩
    · exact .inr (h.fresh g)
theorem Rs.ge (hr : Same Hr Hr') (g : Ge O H H') (h : Rs K O Hr H v d) : Rs K O Hr' H' v d := h.imp (Rp.ge g) fun ⟨p, e, q⟩ => ⟨p, e, q.ge hr g⟩
theorem Rs.sub (g : ∀ a ∈ O', a ∈ O) (h : Rs K O Hr H v d) : Rs K O' Hr H v d := h.imp (Rp.sub g) fun ⟨p, e, q⟩ => ⟨p, e, q.sub g⟩
theorem Rs.fresh {q : Addr} (g : H q = none) (h : Rs K O Hr H v d) : Rs K (q :: O) Hr H v d := h.imp (Rp.fresh g) fun ⟨p, e, z⟩ => ⟨p, e, z.fresh g⟩
theorem OwnAt.ge (g : Ge O H H') (hp : H' p = H p) (h : OwnAt K O H p d) : OwnAt K O H' p d := by
  cases d <;> first | exact h.elim | skip
  · obtain ⟨xs, h1, h2⟩ := h
    exact ⟨xs, hp.trans h1, h2.ge g⟩
  · obtain ⟨xs, h1, h2⟩ := h
    exact ⟨xs, hp.trans h1, h2.ge g⟩
theorem OwnAt.sub (g : ∀ a ∈ O', a ∈ O) (h : OwnAt K O H p d) : OwnAt K O' H p d := by
  cases d <;> first | exact h.elim | skip
  · obtain ⟨xs, h1, h2⟩ := h
    exact ⟨xs, h1, h2.sub g⟩
  · obtain ⟨xs, h1, h2⟩ := h
    exact ⟨xs, h1, h2.sub g⟩
theorem OwnAt.fresh {q : Addr} (g : H q = none) (h : OwnAt K O H p d) : OwnAt K (q :: O) H p d := by
  cases d <;> first | exact h.elim | skip
  · obtain ⟨xs, h1, h2⟩ := h
    exact ⟨xs, h1, h2.fresh g⟩
  · obtain ⟨xs, h1, h2⟩ := h
    exact ⟨xs, h1, h2.fresh g⟩
theorem OwnAt.root (h : OwnAt K O H p d) : RootAt K O H H p d := by
  cases d <;> first | exact h.elim | skip
  · obtain ⟨xs, h1, h2⟩ := h
    exact ⟨xs, .inl h1, h2⟩
  · obtain ⟨xs, h1, h2⟩ := h
    exact .inl ⟨xs, h1, h2⟩
theorem OwnAt.some (h : OwnAt K O H p d) : ∃ o, H p = some o := by
  cases d <;> first | exact h.elim | skip
  · obtain ⟨xs, h1, h2⟩ := h
    exact ⟨_, h1⟩
  · obtain ⟨xs, h1, h2⟩ := h
    exact ⟨_, h1⟩
/-- an own thing is given up -/
theorem OwnAt.give (h : OwnAt K O H p d) (hs : ∀ a ∈ O', a ∈ O) (hp : p ∉ O') : Rp K O' H (.ref p) d := by
  cases d <;> first | exact h.elim | skip
  · obtain ⟨xs, h1, h2⟩ := h
    exact .lst ⟨hp, .inl h1⟩ (h2.sub hs)
  · obtain ⟨xs, h1, h2⟩ := h
    exact .dct hp h1 (h2.sub hs)
end

/-- none, a truth, a number, a text -/
def atomD : PyData → Bool
  | .list _ => false
  | .tuple _ => false
  | .dict _ => false
  | _ => true
@[simp] theorem atomD_l {ds : List PyData} : atomD (.list ds) = false := (rfl)
@[simp] theorem atomD_d {ds : List (PyData × PyData)} : atomD (.dict ds) = false := (rfl)
theorem Rp.noref {K : Fr} {O : List Addr} {H : Hp} {p : Addr} {d : PyData} (h : Rp K O H (.ref p) d) (ha : atomD d = true) : False := by
  cases h <;> cases ha
/-! ### the state -/
structure Stt (K : Fr) (H0 : Hp) (O0 : List Addr) (B Ω : List Nat) (O : List Addr) (H : Hp) (σ : St) (ρ : Env) : Prop where
  keep : Same H0 H
  trk0 : ∀ a ∈ O0, H0 a ≠ none
  sub : ∀ a ∈ O0, a ∈ O
  trk : ∀ a ∈ O, H a ≠ none
  fz : ∀ (i : Nat) (d : D), ρ[i]? = some (some d) → i ∉ Ω → i ∉ B → ∃ v, σ[i]? = some (some v) ∧ Rp K O H v d
  bor : ∀ (i : Nat) (d : D), ρ[i]? = some (some d) → i ∉ Ω → i ∈ B → ∃ v, σ[i]? = some (some v) ∧ Rs K O H0 H v d
  ow : ∀ (i : Nat) (d : D), ρ[i]? = some (some d) → i ∈ Ω → (atomD d = true ∧ ∃ v, σ[i]? = some (some v) ∧ Rp K O H v d) ∨ ∃ p, σ[i]? = some (some (V.ref p)) ∧ p ∈ O ∧ H0 p = none ∧ OwnAt K O H p d
  dist : ∀ i ∈ Ω, ∀ j ∈ Ω, i ≠ j → ∀ p d e, ρ[i]? = some (some d) → ρ[j]? = some (some e) → σ[i]? = some (some (V.ref p)) → σ[j]? ≠ some (some (V.ref p))
  len : σ.length = ρ.length
theorem Stt.owL {K : Fr} {H0 : Hp} {O0 : List Addr} {B Ω : List Nat} {O : List Addr} {H : Hp} {σ : St} {ρ : Env} (S : Stt K H0 O0 B Ω O H σ ρ) (i : Nat) (d : D) (e : ρ[i]? = some (some d)) (hi : i ∈ Ω) (hd : atomD d = false) : ∃ p, σ[i]? = some (some (V.ref p)) ∧ p ∈ O ∧ H0 p = none ∧ OwnAt K O H p d := by
  rcases S.ow i d e hi with ⟨h, _⟩ | h
  · rw [hd] at h; cases h
  · exact h
/-- .. that stands at an address -/
theorem Stt.owR {K : Fr} {H0 : Hp} {O0 : List Addr} {B Ω : List Nat} {O : List Addr} {H : Hp} {σ : St} {ρ : Env} {q : Addr} (S : Stt K H0 O0 B Ω O H σ ρ) (i : Nat) (d : D) (e : ρ[i]? = some (some d)) (hi : i ∈ Ω) (hq : σ[i]? = some (some (V.ref q))) : q ∈ O ∧ H0 q = none ∧ OwnAt K O H q d := by
  rcases S.ow i d e hi with ⟨ha, v, e', r⟩ | ⟨p, e', h2, h3, h4⟩
  · rw [hq] at e'; cases e'; exact (r.noref ha).elim
  · rw [hq] at e'; cases e'; exact ⟨h2, h3, h4⟩
/-- what a step may have done: own things changed, new ones came -/
structure Step (O : List Addr) (H : Hp) (O' : List Addr) (H' : Hp) : Prop where
  ge : Ge O H H'
  new : ∀ a ∈ O', a ∈ O ∨ H a = none
theorem Step.refl {O : List Addr} {H : Hp} : Step O H O H := ⟨fun _ _ _ e => e, fun _ h => .inl h⟩
theorem Step.of_same {O : List Addr} {H H' : Hp} (s : Same H H') : Step O H O H' := ⟨Ge.of_same s, fun _ h => .inl h⟩
theorem Step.tr {O O1 O2 : List Addr} {H H1 H2 : Hp} (a : Step O H O1 H1) (b : Step O1 H1 O2 H2) : Step O H O2 H2 := by
  refine ⟨fun x o hx e => b.ge x o (fun z => ?_) (a.ge x o hx e), fun x hx => ?_⟩
  · rcases a.new x z with q | q
    · exact hx q
    · rw [e] at q; cases q
  · rcases b.new x hx with q | q
    · exact a.new x q
    · by_cases ho : x ∈ O
      · exact .inl ho
      · cases e : H x with
        | none => exact .inr rfl
        | some u => rw [a.ge x u ho e] at q; cases q
section
variable {K : Fr} {H0 : Hp} {O0 : List Addr} {B Ω : List Nat} {O : List Addr} {H H' : Hp} {σ : St} {ρ : Env}
theorem Stt.same (S : Stt K H0 O0 B Ω O H σ ρ) (s : Same H H') : Stt K H0 O0 B Ω O H' σ ρ where
  keep := Same.tr S.keep s
  trk0 := S.trk0
  sub := S.sub
  trk := fun a ha e => by
    cases q : H a with
    | none => exact S.trk a ha q
    | some u => rw [s a u q] at e; cases e
  fz := fun i d e h1 h2 => let ⟨v, e', r⟩ := S.fz i d e h1 h2; ⟨v, e', r.same s⟩
  bor := fun i d e h1 h2 => let ⟨v, e', r⟩ := S.bor i d e h1 h2; ⟨v, e', r.ge Same.refl (Ge.of_same s)⟩
  ow := fun i d e h1 => by
    rcases S.ow i d e h1 with ⟨ha, v, e', r⟩ | ⟨p, e', h2, h3, h4⟩
    · exact .inl ⟨ha, v, e', r.same s⟩
    obtain ⟨o, q⟩ := h4.some
    exact .inr ⟨p, e', h2, h3, h4.ge (Ge.of_same s) ((s p o q).trans q.symm)⟩
  dist := S.dist
  len := S.len
/-- a slot takes a value that is no own thing -/
theorem Stt.set {i : Nat} {v : V} {d : D} (S : Stt K H0 O0 B Ω O H σ ρ) (r : Rp K O H v d) (hB : i ∉ B) : Stt K H0 O0 B (Ω.filter (· ≠ i)) O H (σ.set i (some v)) (ρ.set i (some d)) where
  keep := S.keep
  trk0 := S.trk0
  sub := S.sub
  trk := S.trk
  fz := fun j e h1 h2 h3 => by
    by_cases hj : i = j
    · subst hj
      obtain ⟨hl, _⟩ := List.getElem?_eq_some_iff.mp h1
      rw [List.getElem?_set_self (by simpa using hl)] at h1
      cases h1
      exact ⟨v, List.getElem?_set_self (by rw [S.len]; simpa using hl), r⟩
    · rw [List.getElem?_set_ne hj] at h1
      rw [List.getElem?_set_ne hj]
      exact S.fz j e h1 (fun z => h2 (List.mem_filter.mpr ⟨z, by simpa using Ne.symm hj⟩)) h3
  bor := fun j e h1 h2 h3 => by
    have hj : i ≠ j := fun z => hB (z ▸ h3)
    rw [List.getElem?_set_ne hj] at h1
    rw [List.getElem?_set_ne hj]
    exact S.bor j e h1 (fun z => h2 (List.mem_filter.mpr ⟨z, by simpa using Ne.symm hj⟩)) h3
  ow := fun j e h1 h2 => by
    obtain ⟨h2, h3⟩ := List.mem_filter.mp h2
    have hj : i ≠ j := by simpa using (Ne.symm (by simpa using h3 : j ≠ i))
    rw [List.getElem?_set_ne hj] at h1
    rw [List.getElem?_set_ne hj]
    exact S.ow j e h1 h2
  dist := fun j hj k hk hne p d e h1 h2 h3 => by
    obtain ⟨hj, h4⟩ := List.mem_filter.mp hj
    obtain ⟨hk, h5⟩ := List.mem_filter.mp hk
    have a1 : i ≠ j := Ne.symm (by simpa using h4)
    have a2 : i ≠ k := Ne.symm (by simpa using h5)
    rw [List.getElem?_set_ne a1] at h1 h3
    rw [List.getElem?_set_ne a2] at h2
    rw [List.getElem?_set_ne a2]
    exact S.dist j hj k hk hne p d e h1 h2 h3
  len := by simp [S.len]
/-- a slot takes a new own thing -/
theorem Stt.setO {i : Nat} {p : Addr} {d : D} (S : Stt K H0 O0 B Ω O H σ ρ) (s : Same H H') (hp : H p = none) (w : OwnAt K (p :: O) H' p d) (hB : i ∉ B) :
    Stt K H0 O0 B (i :: Ω.filter (· ≠ i)) (p :: O) H' (σ.set i (some (.ref p))) (ρ.set i (some d)) := by
  have S' := S.same s
  have nin : ∀ a ∈ O, a ≠ p := fun a ha e => S.trk a ha (by rw [e]; exact hp)
  have up : ∀ {v : V} {e : D}, Rp K O H v e → Rp K (p :: O) H' v e := fun r => (r.fresh hp).same s
  refine ⟨S'.keep, S.trk0, fun a ha => List.mem_cons_of_mem _ (S.sub a ha), fun a ha => ?_, fun j e h1 h2 h3 => ?_, fun j e h1 h2 h3 => ?_, fun j e h1 h2 => ?_, ?_, by simp [S.len]⟩
  · rcases List.mem_cons.mp ha with rfl | ha
    · obtain ⟨o, q⟩ := w.some; rw [q]; simp
    · exact S'.trk a ha
  · have hj : i ≠ j := fun z => h2 (z ▸ List.mem_cons_self)
    rw [List.getElem?_set_ne hj] at h1
    rw [List.getElem?_set_ne hj]
    obtain ⟨v, q, r⟩ := S.fz j e h1 (fun z => h2 (List.mem_cons_of_mem _ (List.mem_filter.mpr ⟨z, by simpa using Ne.symm hj⟩))) h3
    exact ⟨v, q, up r⟩
  · have hj : i ≠ j := fun z => hB (z ▸ h3)
    rw [List.getElem?_set_ne hj] at h1
    rw [List.getElem?_set_ne hj]
    obtain ⟨v, q, r⟩ := S.bor j e h1 (fun z => h2 (List.mem_cons_of_mem _ (List.mem_filter.mpr ⟨z, by simpa using Ne.symm hj⟩))) h3
    exact ⟨v, q, (r.fresh hp).ge Same.refl (Ge.of_same s)⟩
  · by_cases hj : i = j
    · subst hj
      obtain ⟨hl, _⟩ := List.getElem?_eq_some_iff.mp h1
      rw [List.getElem?_set_self (by simpa using hl)] at h1
      cases h1
      refine .inr ⟨p, List.getElem?_set_self (by rw [S.len]; simpa using hl), List.mem_cons_self, ?_, w⟩
      cases q : H0 p with
      | none => rfl
      | some u => rw [S.keep p u q] at hp; cases hp
    · rw [List.getElem?_set_ne hj] at h1
      rw [List.getElem?_set_ne hj]
      have h2' : j ∈ Ω := by
        rcases List.mem_cons.mp h2 with z | z
        · exact absurd z.symm hj
        · exact (List.mem_filter.mp z).1
      rcases S.ow j e h1 h2' with ⟨ha, v, e', r⟩ | ⟨q, e1, e2, e3, e4⟩
      · exact .inl ⟨ha, v, e', up r⟩
      obtain ⟨o, eo⟩ := e4.some
      exact .inr ⟨q, e1, List.mem_cons_of_mem _ e2, e3, (e4.fresh hp).ge (Ge.of_same s) ((s q o eo).trans eo.symm)⟩
  · have own_ne : ∀ j e, i ≠ j → ρ[j]? = some (some e) → j ∈ Ω → σ[j]? ≠ some (some (V.ref p)) := fun j e hj h1 h2 z => by
      exact nin p (S.owR j e h1 h2 z).1 rfl
    intro j hj k hk hne q d' e' h1 h2 h3
    by_cases a1 : i = j
    · subst a1
      have a2 : i ≠ k := hne
      have hk' : k ∈ Ω := by
        rcases List.mem_cons.mp hk with z | z
        · exact absurd z.symm a2
        · exact (List.mem_filter.mp z).1
      obtain ⟨hl, _⟩ := List.getElem?_eq_some_iff.mp h1
      rw [List.getElem?_set_self (by rw [S.len]; simpa using hl)] at h3
      cases h3
      rw [List.getElem?_set_ne a2] at h2
      rw [List.getElem?_set_ne a2]
      exact own_ne k _ a2 h2 hk'
    · have hj' : j ∈ Ω := by
        rcases List.mem_cons.mp hj with z | z
        · exact absurd z.symm a1
        · exact (List.mem_filter.mp z).1
      rw [List.getElem?_set_ne a1] at h1 h3
      by_cases a2 : i = k
      · subst a2
        obtain ⟨hl, _⟩ := List.getElem?_eq_some_iff.mp h2
        rw [List.getElem?_set_self (by rw [S.len]; simpa using hl)]
        intro z
        cases z
        exact own_ne j _ a1 h1 hj' h3
      · have hk' : k ∈ Ω := by
          rcases List.mem_cons.mp hk with z | z
          · exact absurd z.symm a2
          · exact (List.mem_filter.mp z).1
        rw [List.getElem?_set_ne a2] at h2
        rw [List.getElem?_set_ne a2]
        exact S.dist j hj' k hk' hne q _ _ h1 h2 h3
end
end MV

set_option Elab.async false
set_option linter.all false
set_option maxRecDepth 100000
set_option maxHeartbeats 4000000
namespace MV
open PySem L2

/-! ### more of the state: give up, weaken -/
section
variable {K : Fr} {H0 : Hp} {O0 : List Addr} {B Ω : List Nat} {O : List Addr} {H H' : Hp} {σ : St} {ρ : Env}
/-- an own slot is owned no longer: its thing stays as it is from now on -/
theorem Stt.give (i : Nat) (hB : i ∉ B) (S : Stt K H0 O0 B Ω O H σ ρ) : ∃ O', Step O H O' H ∧ Stt K H0 O0 B (Ω.filter (· ≠ i)) O' H σ ρ := by
  have same : Stt K H0 O0 B Ω O H σ ρ → (∀ d, ρ[i]? = some (some d) → i ∉ Ω) → Stt K H0 O0 B (Ω.filter (· ≠ i)) O H σ ρ := fun S hn => by
    refine ⟨S.keep, S.trk0, S.sub, S.trk, fun j d h1 h2 h3 => S.fz j d h1 (fun z => ?_) h3, fun j d h1 h2 h3 => S.bor j d h1 (fun z => ?_) h3, fun j d h1 h2 => S.ow j d h1 (List.mem_filter.mp h2).1, fun j hj k hk => S.dist j (List.mem_filter.mp hj).1 k (List.mem_filter.mp hk).1, S.len⟩
    · by_cases hj : j = i
      · subst hj; exact hn d h1 z
      · exact h2 (List.mem_filter.mpr ⟨z, by simpa using hj⟩)
    · by_cases hj : j = i
      · subst hj; exact hn d h1 z
      · exact h2 (List.mem_filter.mpr ⟨z, by simpa using hj⟩)
  by_cases hi : i ∈ Ω
  · by_cases hd : ∃ d, ρ[i]? = some (some d)
    · obtain ⟨d, hd⟩ := hd
      rcases S.ow i d hd hi with ⟨ha, v, e', r⟩ | ⟨p, e1, e2, e3, e4⟩
      · refine ⟨O, Step.refl, S.keep, S.trk0, S.sub, S.trk, fun j d' h1 h2 h3 => ?_, fun j d' h1 h2 h3 => S.bor j d' h1 (fun z => ?_) h3, fun j d' h1 h2 => S.ow j d' h1 (List.mem_filter.mp h2).1, fun j hj k hk => S.dist j (List.mem_filter.mp hj).1 k (List.mem_filter.mp hk).1, S.len⟩
        · by_cases hj : j = i
          · subst hj
            rw [hd] at h1; cases h1
            exact ⟨v, e', r⟩
          · exact S.fz j d' h1 (fun z => h2 (List.mem_filter.mpr ⟨z, by simpa using hj⟩)) h3
        · by_cases hj : j = i
          · subst hj; exact hB h3
          · exact h2 (List.mem_filter.mpr ⟨z, by simpa using hj⟩)
      have sb : ∀ a ∈ O.filter (· ≠ p), a ∈ O := fun a ha => (List.mem_filter.mp ha).1
      have np : p ∉ O.filter (· ≠ p) := fun z => by simpa using (List.mem_filter.mp z).2
      refine ⟨O.filter (· ≠ p), ⟨fun _ _ _ e => e, fun a ha => .inl (sb a ha)⟩, S.keep, S.trk0, fun a ha => List.mem_filter.mpr ⟨S.sub a ha, ?_⟩, fun a ha => S.trk a (sb a ha), fun j e h1 h2 h3 => ?_, fun j e h1 h2 h3 => ?_, fun j e h1 h2 => ?_, fun j hj k hk => S.dist j (List.mem_filter.mp hj).1 k (List.mem_filter.mp hk).1, S.len⟩
      · simp only [ne_eq, decide_not, Bool.not_eq_eq_eq_not, Bool.not_true, decide_eq_false_iff_not]
        rintro rfl
        exact S.trk0 _ ha e3
      · by_cases hj : j = i
        · subst hj
          rw [hd] at h1; cases h1
          exact ⟨_, e1, e4.give sb np⟩
        · obtain ⟨v, q, r⟩ := S.fz j e h1 (fun z => h2 (List.mem_filter.mpr ⟨z, by simpa using hj⟩)) h3
          exact ⟨v, q, r.sub sb⟩
      · have hj : j ≠ i := fun z => hB (z ▸ h3)
        obtain ⟨v, q, r⟩ := S.bor j e h1 (fun z => h2 (List.mem_filter.mpr ⟨z, by simpa using hj⟩)) h3
        exact ⟨v, q, r.sub sb⟩
      · obtain ⟨h2, hne⟩ := List.mem_filter.mp h2
        have hne : j ≠ i := by simpa using hne
        rcases S.ow j e h1 h2 with ⟨ha, v, e', r⟩ | ⟨q, f1, f2, f3, f4⟩
        · exact .inl ⟨ha, v, e', r.sub sb⟩
        refine .inr ⟨q, f1, List.mem_filter.mpr ⟨f2, ?_⟩, f3, f4.sub sb⟩
        have : q ≠ p := fun z => by subst z; exact S.dist j h2 i hi hne q _ _ h1 hd f1 e1
        simpa using this
    · exact ⟨O, Step.refl, same S fun d e _ => hd ⟨d, e⟩⟩
  · exact ⟨O, Step.refl, same S fun _ _ => hi⟩
/-- every own slot is given up -/
theorem Stt.giveAll (hB : ∀ i ∈ Ω, i ∉ B) (S : Stt K H0 O0 B Ω O H σ ρ) : ∃ O', Step O H O' H ∧ Stt K H0 O0 B [] O' H σ ρ := by
  have gen : ∀ (n : Nat) (Ω : List Nat) (O : List Addr), Ω.length ≤ n → (∀ i ∈ Ω, i ∉ B) → Stt K H0 O0 B Ω O H σ ρ → ∃ O', Step O H O' H ∧ Stt K H0 O0 B [] O' H σ ρ := by
    intro n
    induction n with
    | zero =>
      intro Ω O hl _ S
      cases Ω with
      | nil => exact ⟨O, Step.refl, S⟩
      | cons _ _ => simp at hl
    | succ n ih =>
      intro Ω O hl hB S
      cases Ω with
      | nil => exact ⟨O, Step.refl, S⟩
      | cons i r =>
        obtain ⟨O1, s1, S1⟩ := S.give i (hB i List.mem_cons_self)
        have e : (i :: r).filter (· ≠ i) = r.filter (· ≠ i) := by simp
        rw [e] at S1
        obtain ⟨O2, s2, S2⟩ := ih (r.filter (· ≠ i)) O1 (Nat.le_trans (List.length_filter_le _ _) (by simpa using hl)) (fun j hj => hB j (List.mem_cons_of_mem _ (List.mem_filter.mp hj).1)) S1
        exact ⟨O2, s1.tr s2, S2⟩
  exact gen Ω.length Ω O (Nat.le_refl _) hB S
end

/-! ### what is wanted of a result -/
section
variable {α β γ δ : Type}
def Good (mg : Str → Option Value) (W : WX) (σ : St) (Rel : Hp → β → α → Prop) (H : Hp) (r : R α) (Q : β → Hp → Prop) : Prop :=
  match r with
  | .ok d => ∀ v H', Same H H' → Rel H' v d → Q v H'
  | .exc n => ∀ C H', mg n = some (Value.ref C) → Same H H' → W (.ref C) none σ H'
  | .stuck => False
variable {mg : Str → Option Value} {W : WX} {σ : St} {Rel : Hp → β → α → Prop} {Rel2 : Hp → δ → γ → Prop} {H H' : Hp} {r : R α} {Q : β → Hp → Prop} {Q2 : δ → Hp → Prop}
theorem Good.mono (s : Same H H') (h : Good mg W σ Rel H r Q) : Good mg W σ Rel H' r Q := by
  cases r with
  | ok d => exact fun v H2 s2 q => h v H2 (Same.tr s s2) q
  | exc n => exact fun C H2 m s2 => h C H2 m (Same.tr s s2)
  | stuck => exact h
theorem Good.bind {f : α → R γ} (h : Good mg W σ Rel2 H (r.bind f) Q2) (k : ∀ d v H1, r = .ok d → Same H H1 → Rel H1 v d → Good mg W σ Rel2 H1 (f d) Q2 → Q v H1) : Good mg W σ Rel H r Q := by
  cases r with
  | ok d => exact fun v H1 s rp => k d v H1 rfl s rp (Good.mono s h)
  | exc n => exact h
  | stuck => exact h
theorem Good.use {d : α} {v : β} (h : Good mg W σ Rel H (.ok d) Q) (rp : Rel H v d) : Q v H := h v H Same.refl rp
end

/-! ### judgements -/
/-- where one stands -/
structure Gd (X : Cx) (W : WX) (k : Nat) : Prop where
  tk : L2N.Takes X W
  hp : PassesOwn (model X.prog X.w) X.A X.env X.xe
  hc : X.calm = true
  nd : X.N.Nodup
  hr : Room k X.A
theorem Gd.hu {X : Cx} {W : WX} {k : Nat} (g : Gd X W k) : X.A.units + 1 < cLine := hu_of g.hr
theorem Gd.u64 {X : Cx} {W : WX} {k : Nat} (g : Gd X W k) : X.A.units + 64 < cLine := g.hr.units
theorem Gd.u65 {X : Cx} {W : WX} {k : Nat} (g : Gd X W k) : X.A.units + 65 < cLine := by have := g.hr.un; omega
def W0 : WX := fun _ _ _ _ => False
theorem Gd.blk {X : Cx} {W : WX} {k : Nat} (g : Gd X W k) (s : Shared) (H : Hp) (scope : Scope) (cenv : PySem.Env) (fp : List Addr) : Gd (X.blk s H scope cenv fp) W0 k where
  tk := fun u s' ⟨a, B, sI, pins, σ, H, cls, d, e, I, nb, up, sky, na, os, ag, w⟩ => w
  hp := PassesOwn.never
  hc := g.hc
  nd := g.nd
  hr := g.hr

section
variable (K : Fr) (mg : Str → Option Value) (W : WX) (B Ω : List Nat)
/-- an expression: frozen data -/
def tX (g : Env → R D) : TE := fun σ H Q => ∃ H0 O0 O ρ, Stt K H0 O0 B Ω O H σ ρ ∧ Good mg W σ (Rp K O) H (g ρ) Q
/-- .. borrowed -/
def tB (g : Env → R D) : TE := fun σ H Q => ∃ H0 O0 O ρ, Stt K H0 O0 B Ω O H σ ρ ∧ Good mg W σ (fun H' => Rs K O H' H') H (g ρ) Q
/-- .. a new own thing -/
def RelO (O : List Addr) (H : Hp) (H' : Hp) (v : V) (d : D) : Prop := (atomD d = true ∧ Rp K O H' v d) ∨ ∃ p, v = .ref p ∧ H p = none ∧ OwnAt K (p :: O) H' p d
def tO (g : Env → R D) : TE := fun σ H Q => ∃ H0 O0 O ρ, Stt K H0 O0 B Ω O H σ ρ ∧ Good mg W σ (RelO K O H) H (g ρ) Q
def tT (g : Env → R Bool) : TT := fun σ H Q => ∃ H0 O0 O ρ, Stt K H0 O0 B Ω O H σ ρ ∧ Good mg W σ (fun _ (b c : Bool) => b = c) H (g ρ) Q
def RelA (O : List Addr) (H : Hp) : List V → List (Bool × D) → Prop
  | [], [] => True
  | v :: vs, (b, d) :: ds => (if b = true then Rs K O H H v d else Rp K O H v d) ∧ RelA O H vs ds
  | _, _ => False
def tA (g : Env → R (List (Bool × D))) : TA := fun σ H Q => ∃ H0 O0 O ρ, Stt K H0 O0 B Ω O H σ ρ ∧ Good mg W σ (RelA K O) H (g ρ) Q
end
def PX (X : Cx) (W : WX) (B Ω : List Nat) (e : Expr) (g : Env → R D) : Prop := PE X e (tX X.fr X.mg W B Ω g)
def PB (X : Cx) (W : WX) (B Ω : List Nat) (e : Expr) (g : Env → R D) : Prop := PE X e (tB X.fr X.mg W B Ω g)
def PO (X : Cx) (W : WX) (B Ω : List Nat) (e : Expr) (g : Env → R D) : Prop := PE X e (tO X.fr X.mg W B Ω g)
def PTx (X : Cx) (W : WX) (B Ω : List Nat) (e : Expr) (g : Env → R Bool) : Prop := PT X e (tT X.fr X.mg W B Ω g)
def PWx (X : Cx) (W : WX) (B Ω : List Nat) (e : Expr) (g : Env → R Bool) : Prop := PW X e (tT X.fr X.mg W B Ω g)
def PAx (X : Cx) (W : WX) (B Ω : List Nat) (es : List Expr) (g : Env → R (List (Bool × D))) : Prop := PA X es (tA X.fr X.mg W B Ω g)

theorem PE.imp {X : Cx} {e : Expr} {t t' : TE} (h : PE X e t) (w : ∀ σ H Q, t' σ H Q → t σ H Q) : PE X e t' := ⟨fun pins s σ H Q I q => h.run pins s σ H Q I (w σ H Q q)⟩
theorem PT.imp {X : Cx} {e : Expr} {t t' : TT} (h : PT X e t) (w : ∀ σ H Q, t' σ H Q → t σ H Q) : PT X e t' := ⟨fun pins s σ H Q I q => h.run pins s σ H Q I (w σ H Q q)⟩
theorem PW.imp {X : Cx} {e : Expr} {t t' : TT} (h : PW X e t) (w : ∀ σ H Q, t' σ H Q → t σ H Q) : PW X e t' := ⟨fun wh pins s σ H Q I q => h.run wh pins s σ H Q I (w σ H Q q)⟩
theorem PA.imp {X : Cx} {es : List Expr} {t t' : TA} (h : PA X es t) (w : ∀ σ H Q, t' σ H Q → t σ H Q) : PA X es t' := ⟨fun pos pins s σ H Q I q => h.run pos pins s σ H Q I (w σ H Q q)⟩
theorem PS.imp {X : Cx} {st : Stmt} {t t' : TS} (h : PS X st t) (w : ∀ D σ H, t' D σ H → t D σ H) : PS X st t' := ⟨fun pins s σ H D I q => h.run pins s σ H D I (w D σ H q)⟩
theorem PSs.imp {X : Cx} {st : List Stmt} {t t' : TS} (h : PSs X st t) (w : ∀ D σ H, t' D σ H → t D σ H) : PSs X st t' := ⟨fun pins s σ H D I q => h.run pins s σ H D I (w D σ H q)⟩

section
variable {X : Cx} {W : WX} {B Ω : List Nat} {k : Nat}
/-! ### names, constants -/
def xVar (i : Nat) : Env → R D := fun ρ => match ρ[i]? with
  | some (some d) => .ok d
  | _ => .stuck
def xC (d : D) : Env → R D := fun _ => .ok d
theorem px_int {i : Int} {j pos} : PX X W B Ω (.Constant (.int i) j pos) (xC (.int i)) := PE.imp pe_int fun _ _ _ ⟨_, _, _, _, _, h⟩ => h.use (.int i)
theorem px_bl {b : Bool} {j pos} : PX X W B Ω (.Constant (.bool b) j pos) (xC (.bool b)) := PE.imp pe_bl fun _ _ _ ⟨_, _, _, _, _, h⟩ => h.use (.bl b)
theorem px_non {j pos} : PX X W B Ω (.Constant .none j pos) (xC .none) := PE.imp pe_non fun _ _ _ ⟨_, _, _, _, _, h⟩ => h.use .non
theorem px_str {x : Str} {j pos} (hs : PyData.strOk x = true := by decide +kernel) : PX X W B Ω (.Constant (.str x) j pos) (xC (.str x)) := PE.imp pe_str fun _ _ _ ⟨_, _, _, _, _, h⟩ => h.use (.str x hs)
theorem px_var {i : Nat} {x : Str} {pos : Pos} (hN : X.N[i]? = some x) (hv : Vis X.env.scope x) (ho : Ω.contains i = false) (hb : B.contains i = false) (hd : (x == ("__debug__" : Str)) = false := by decide) (hcd : (x == ("__classdict__" : Str)) = false := by decide) :
    PX X W B Ω (.Name x pos) (xVar i) := PE.imp (pe_var hN hv hd hcd) fun σ H Q ⟨H0, O0, O, ρ, S, h⟩ => by
  have ho : i ∉ Ω := by simpa using ho
  have hb : i ∉ B := by simpa using hb
  unfold xVar at h
  cases e : ρ[i]? with
  | none => rw [e] at h; exact h.elim
  | some o =>
    cases o with
    | none => rw [e] at h; exact h.elim
    | some d =>
      rw [e] at h
      obtain ⟨v, q, r⟩ := S.fz i d e ho hb
      exact ⟨v, q, h.use r⟩
theorem pb_var {i : Nat} {x : Str} {pos : Pos} (hN : X.N[i]? = some x) (hv : Vis X.env.scope x) (hd : (x == ("__debug__" : Str)) = false := by decide) (hcd : (x == ("__classdict__" : Str)) = false := by decide) :
    PB X W B Ω (.Name x pos) (xVar i) := PE.imp (pe_var hN hv hd hcd) fun σ H Q ⟨H0, O0, O, ρ, S, h⟩ => by
  unfold xVar at h
  cases e : ρ[i]? with
  | none => rw [e] at h; exact h.elim
  | some o =>
    cases o with
    | none => rw [e] at h; exact h.elim
    | some d =>
      rw [e] at h
      by_cases ho : i ∈ Ω
      · rcases S.ow i d e ho with ⟨_, v, q, r⟩ | ⟨p, q, r1, r2, r3⟩
        · exact ⟨v, q, h.use (.inl r)⟩
        exact ⟨_, q, h.use (.inr ⟨p, rfl, r3.root⟩)⟩
      · by_cases hb : i ∈ B
        · obtain ⟨v, q, r⟩ := S.bor i d e ho hb
          exact ⟨v, q, h.use (r.ge S.keep (Ge.of_same Same.refl))⟩
        · obtain ⟨v, q, r⟩ := S.fz i d e ho hb
          exact ⟨v, q, h.use (.inl r)⟩
/-- frozen data may be borrowed -/
theorem PX.b {e : Expr} {g : Env → R D} (h : PX X W B Ω e g) : PB X W B Ω e g := PE.imp h fun σ H Q ⟨H0, O0, O, ρ, S, h⟩ => by
  refine ⟨H0, O0, O, ρ, S, ?_⟩
  cases q : g ρ with
  | ok d => rw [q] at h; exact fun v H' s r => h v H' s (.inl r)
  | exc n => rw [q] at h; exact h
  | stuck => rw [q] at h; exact h
theorem OwnAt.rp {K : Fr} {O : List Addr} {H' : Hp} {p : Addr} {d : D} (w : OwnAt K (p :: O) H' p d) (ho : p ∉ O) : Rp K O H' (.ref p) d := w.give (fun _ h => List.mem_cons_of_mem _ h) ho
/-- a new own thing may be given up at once -/
theorem PO.x {e : Expr} {g : Env → R D} (h : PO X W B Ω e g) : PX X W B Ω e g := PE.imp h fun σ H Q ⟨H0, O0, O, ρ, S, h⟩ => by
  refine ⟨H0, O0, O, ρ, S, ?_⟩
  cases q : g ρ with
  | ok d =>
    rw [q] at h
    rintro v H' s (⟨_, r⟩ | ⟨p, rfl, hp, w⟩)
    · exact h v H' s r
    exact h _ H' s (w.rp fun z => S.trk p z hp)
  | exc n => rw [q] at h; exact h
  | stuck => rw [q] at h; exact h

/-! ### operators -/
def x2 (f : D → D → R D) (ga gb : Env → R D) : Env → R D := fun ρ => (ga ρ).bind fun x => (gb ρ).bind fun y => f x y
def x1 (f : D → R D) (ga : Env → R D) : Env → R D := fun ρ => (ga ρ).bind f
/-- an operator's rule over data: the operands borrowed, the result frozen -/
def RB (X : Cx) (r : R2) (f : D → D → R D) : Prop := ∀ (O : List Addr) (H : Hp) (x y : V) (dx dy d : D) (Q : VK), (∀ a ∈ O, H a ≠ none) → Rs X.fr O H H x dx → Rs X.fr O H H y dy → f dx dy = .ok d → (∀ v H', Same H H' → Rp X.fr O H' v d → Q v H') → r x y H Q
/-- .. frozen operands -/
def RX (X : Cx) (r : R2) (f : D → D → R D) : Prop := ∀ (O : List Addr) (H : Hp) (x y : V) (dx dy d : D) (Q : VK), (∀ a ∈ O, H a ≠ none) → Rp X.fr O H x dx → Rp X.fr O H y dy → f dx dy = .ok d → (∀ v H', Same H H' → Rp X.fr O H' v d → Q v H') → r x y H Q
/-- it never raises -/
def NoX (f : D → D → R D) : Prop := ∀ x y n, f x y ≠ .exc n
section
variable {mg : Str → Option Value} {σ : St} {H : Hp} {O : List Addr} {K : Fr} {Q : VK} {d : R D}
theorem Good.ok_of {Rel : Hp → V → D → Prop} (h : Good mg W σ Rel H d Q) (hn : ∀ n, d ≠ .exc n) : ∃ z, d = .ok z := by
  cases d with
  | ok z => exact ⟨z, rfl⟩
  | exc n => exact absurd rfl (hn n)
  | stuck => exact h.elim
end
variable {a b : Expr} {ga gb : Env → R D} {r : R2} {f : D → D → R D} {pos : Pos} {op : Operator} {cop : CmpOp}
theorem pb_bin {P : V → V → Hp → VK → Prop} (hn : NoX f) (hr : RB X P f) {σ : St} {H : Hp} {Q : VK} (h : tX X.fr X.mg W B Ω (x2 f ga gb) σ H Q) :
    tB X.fr X.mg W B Ω ga σ H fun x H1 => tB X.fr X.mg W B Ω gb σ H1 fun y H2 => P x y H2 Q := by
  obtain ⟨H0, O0, O, ρ, S, h⟩ := h
  refine ⟨H0, O0, O, ρ, S, Good.bind (f := fun x => (gb ρ).bind fun y => f x y) h fun x v H1 e1 s1 r1 h1 => ⟨H0, O0, O, ρ, S.same s1, Good.bind (f := fun y => f x y) h1 fun y u H2 e2 s2 r2 h2 => ?_⟩⟩
  obtain ⟨z, e⟩ := h2.ok_of (hn x y)
  rw [e] at h2
  exact hr O H2 v u x y z Q ((S.same s1).same s2).trk (r1.ge s2 (Ge.of_same s2)) r2 e h2
theorem px_bin {P : V → V → Hp → VK → Prop} (hn : NoX f) (hr : RX X P f) {σ : St} {H : Hp} {Q : VK} (h : tX X.fr X.mg W B Ω (x2 f ga gb) σ H Q) :
    tX X.fr X.mg W B Ω ga σ H fun x H1 => tX X.fr X.mg W B Ω gb σ H1 fun y H2 => P x y H2 Q := by
  obtain ⟨H0, O0, O, ρ, S, h⟩ := h
  refine ⟨H0, O0, O, ρ, S, Good.bind (f := fun x => (gb ρ).bind fun y => f x y) h fun x v H1 e1 s1 r1 h1 => ⟨H0, O0, O, ρ, S.same s1, Good.bind (f := fun y => f x y) h1 fun y u H2 e2 s2 r2 h2 => ?_⟩⟩
  obtain ⟨z, e⟩ := h2.ok_of (hn x y)
  rw [e] at h2
  exact hr O H2 v u x y z Q ((S.same s1).same s2).trk (r1.same s2) r2 e h2
theorem px_op (ho : OpR X (binaryOp op) r) (hn : NoX f) (hr : RB X r f) (ha : PB X W B Ω a ga) (hb : PB X W B Ω b gb) : PX X W B Ω (.BinOp a op b pos) (x2 f ga gb) :=
  PE.imp (pe_op ho ha hb) fun σ H Q h => pb_bin hn hr h
theorem px_cmp (ho : OpR X (compareOp cop) r) (hm : behindInMarks cop b = false) (hn : NoX f) (hr : RB X r f) (ha : PB X W B Ω a ga) (hb : PB X W B Ω b gb) : PX X W B Ω (.Compare a [cop] [b] pos) (x2 f ga gb) :=
  PE.imp (pe_cmpR ho ha hb hm) fun σ H Q h => pb_bin hn hr h
theorem OpR.or {F : Value → Value → Sem Value} {r1 r2 : R2} (h1 : OpR X F r1) (h2 : OpR X F r2) : OpR X F (fun x y H Q => r1 x y H Q ∨ r2 x y H Q) := by
  intro pins s σ H x y v u Q I rx ry h
  rcases h with h | h
  · exact h1 pins s σ H x y v u Q I rx ry h
  · exact h2 pins s σ H x y v u Q I rx ry h
end
/-! ### what stands behind data -/
section
variable {K : Fr} {O : List Addr} {H H' : Hp} {v : V}
theorem Rs.non (h : Rs K O H H' v .none) : v = .non := by
  rcases h with h | ⟨p, rfl, h⟩
  · cases h; rfl
  · exact h.elim
theorem Rs.bool {b : Bool} (h : Rs K O H H' v (.bool b)) : v = .bl b := by
  rcases h with h | ⟨p, rfl, h⟩
  · cases h; rfl
  · exact h.elim
theorem Rs.int {i : Int} (h : Rs K O H H' v (.int i)) : v = .int i := by
  rcases h with h | ⟨p, rfl, h⟩
  · cases h; rfl
  · exact h.elim
theorem Rs.str {x : Str} (h : Rs K O H H' v (.str x)) : v = .str x ∧ PyData.strOk x = true := by
  rcases h with h | ⟨p, rfl, h⟩
  · cases h with | str _ h => exact ⟨rfl, h⟩
  · exact h.elim
theorem Rs.lst {ds : List D} (h : Rs K O H H v (.list ds)) : ∃ p xs, v = .ref p ∧ Rd H p (.lst xs) ∧ RpAll K O H xs ds := by
  rcases h with h | ⟨p, rfl, h⟩
  · cases h with | lst hs ha => exact ⟨_, _, rfl, hs.2, ha⟩
  · obtain ⟨xs, h1, h2⟩ := h
    exact ⟨p, xs, rfl, h1, h2⟩
theorem Rs.tup {ds : List D} (h : Rs K O H H' v (.tuple ds)) : ∃ p xs, v = .ref p ∧ (p ∉ O ∧ H' p = some (.tup xs)) ∧ RpAll K O H' xs ds := by
  rcases h with h | ⟨p, rfl, h⟩
  · cases h with | tup hs ha => exact ⟨_, _, rfl, hs, ha⟩
  · exact h.elim
theorem Rs.tupX {ds : List D} (h : Rs K O H H' v (.tuple ds)) : ∃ p xs, v = .ref p ∧ H' p = some (.tup xs) ∧ RpAll K O H' xs ds := by
  rcases h with h | ⟨p, rfl, h⟩
  · cases h with | tup hs ha => exact ⟨_, _, rfl, hs.2, ha⟩
  · exact h.elim
theorem Rs.dict {ds : List (D × D)} (h : Rs K O H H v (.dict ds)) (no : isOb ds = false) : ∃ p vs, v = .ref p ∧ H p = some (dR K p vs) ∧ RpKv K O H vs ds := by
  rcases h with h | ⟨p, rfl, ⟨vs, h1, h2⟩ | h⟩
  · cases h with | dct _ a b => exact ⟨_, _, rfl, a, b⟩
  · exact ⟨p, vs, rfl, h1, h2⟩
  · rw [h.isOb] at no; cases no
theorem Rs.dictR {ds : List (D × D)} (h : Rs K O H H v (.dict ds)) : ∃ p, v = .ref p := by
  rcases h with h | ⟨p, rfl, _⟩
  · cases h with | dct _ a b => exact ⟨_, rfl⟩
  · exact ⟨p, rfl⟩
theorem Rs.dp {d : D} {n : Nat} (h : Rs K O H H v d) (s : shp n d = true) : Dp K H v d := by
  rcases h with h | ⟨p, rfl, h⟩
  · exact Rp.dp n d v s h
  · cases d <;> first | exact h.elim | skip
    · obtain ⟨xs, h1, h2⟩ := h
      cases n with
      | zero => simp [shp] at s
      | succ n => exact .lst (.inl h1) (RpAll.dp n _ _ (by simpa [shp] using s) h2)
    · simp [shp] at s
theorem Rp.atom_int (i : Int) : Rp K O H (.int i) (.int i) := .int i
theorem sqT_of {p : Addr} {xs : List V} (h : p ∉ O ∧ H p = some (.tup xs)) : SqT K H p xs := .inl (.inl h.2)
end
end MV

set_option Elab.async false
set_option linter.all false
set_option maxRecDepth 100000
set_option maxHeartbeats 4000000
namespace MV
open PySem L2

/-! ### keys -/
def isTupD : D → Bool
  | .tuple _ => true
  | _ => false
def lfV : D → V
  | .int i => .int i
  | .str x => .str x
  | _ => .non
theorem leafy_key {d : D} (h : leafy d = true) : keyN d = (lfK d).key := by cases d <;> simp [leafy] at h <;> rfl
theorem lfK_iff {a b : D} (ha : leafy a = true) (hb : leafy b = true) : lfK a = lfK b ↔ keyN a = keyN b := by
  rw [leafy_key ha, leafy_key hb]
  exact ⟨fun e => by rw [e], Leaf.key_inj⟩
section
variable {K : Fr} {O : List Addr} {H H' : Hp} {v : V}
theorem leaf_v {d : D} (h : leafy d = true) (r : Rs K O H H' v d) : v = lfV d := by
  cases d <;> simp [leafy] at h
  · exact r.non
  · exact r.int
  · exact r.str.1
theorem leaf_rp {d : D} (h : leafy d = true) (r : Rs K O H H' v d) : Rp K O H' v d := by
  cases d <;> simp [leafy] at h
  · obtain rfl := r.non; exact .non
  · obtain rfl := r.int; exact .int _
  · obtain ⟨rfl, q⟩ := r.str; exact .str _ q
theorem tup_rp {d : D} (h : isTupD d = true) (r : Rs K O H H' v d) : Rp K O H' v d := by
  cases d <;> simp [isTupD] at h
  obtain ⟨p, xs, rfl, a, b⟩ := r.tup
  exact .tup a b
end
mutual
theorem kyb_depth : ∀ (n : Nat) (d : D), kyb n d = true → (keyN d).depth ≤ n
  | n, .none, _ => by simp [keyN, NestedKey.depth]
  | n, .int i, _ => by simp [keyN, NestedKey.depth]
  | n, .str i, _ => by simp [keyN, NestedKey.depth]
  | n + 1, .tuple ds, h => by
    have := kyb_depths n ds (by simpa [kyb] using h)
    simp only [keyN, NestedKey.depth]; omega
  | 0, .tuple ds, h => by simp [kyb] at h
  | n, .bool _, h => by cases n <;> simp [kyb] at h
  | n, .list _, h => by cases n <;> simp [kyb] at h
  | n, .dict _, h => by cases n <;> simp [kyb] at h
theorem kyb_depths : ∀ (n : Nat) (ds : List D), (∀ d ∈ ds, kyb n d = true) → NestedKey.depthAll (keyNs ds) ≤ n
  | n, [], _ => by simp [keyNs, NestedKey.depthAll]
  | n, d :: ds, h => by
    have h1 := kyb_depth n d (h d List.mem_cons_self)
    have h2 := kyb_depths n ds fun x hx => h x (List.mem_cons_of_mem _ hx)
    simp only [keyNs, NestedKey.depthAll]; omega
end
section
variable {X : Cx} {pins : List (Addr × Obj)} {σ : St} {H : Hp} {s : Shared} {O : List Addr}
mutual
theorem nested_is (I : Inv X pins σ H s) : ∀ (n : Nat) (d : D) (v : V) (u : Value), kyb n d = true → Rp X.fr O H v d → RelV v u → NestedIs s.heap (keyN d) u
  | n, .none, _, _, _, r, q => by cases r; cases q; exact .none
  | n, .int i, _, _, _, r, q => by cases r; obtain ⟨t, rfl⟩ := q; exact .int _ _
  | n, .str i, _, _, _, r, q => by cases r; obtain ⟨t, rfl⟩ := q; exact .text _ _
  | n + 1, .tuple ds, _, _, h, r, q => by
    cases r with
    | @tup a xs _ hs ha =>
      cases q
      obtain ⟨_, its, rv, o, h1, h2, m, h3⟩ := I.hok _ _ hs.2
      refine .tup h1 h2 h3 ?_
      exact nesteds_is I n ds xs its (by simpa [kyb] using h) ha rv
  | 0, .tuple ds, _, _, h, _, _ => by simp [kyb] at h
  | n, .bool _, _, _, h, _, _ => by cases n <;> simp [kyb] at h
  | n, .list _, _, _, h, _, _ => by cases n <;> simp [kyb] at h
  | n, .dict _, _, _, h, _, _ => by cases n <;> simp [kyb] at h
theorem nesteds_is (I : Inv X pins σ H s) : ∀ (n : Nat) (ds : List D) (vs : List V) (us : List Value), (∀ d ∈ ds, kyb n d = true) → RpAll X.fr O H vs ds → Vals vs us → NestedAll s.heap (keyNs ds) us
  | n, [], _, _, _, r, q => by cases r; cases q; exact .nil
  | n, d :: ds, _, _, h, r, q => by
    cases r with
    | cons r1 r2 =>
      cases q with
      | cons q1 q2 => exact .cons (nested_is I n d _ _ (h d List.mem_cons_self) r1 q1) (nesteds_is I n ds _ _ (fun x hx => h x (List.mem_cons_of_mem _ hx)) r2 q2)
end
end
/-- keys carried by value, to the sign -/
def exIs : Leaf → Value → Bool
  | .none, .none => true
  | .num i, .int j _ => decide (j = i)
  | .text x, v => Value.isStrOf x v
  | _, _ => false
theorem exIs_of : ∀ {k : Leaf} {v : Value}, exIs k v = true → Leaf.isOf k v = true
  | .none, v, h => by cases v <;> first | rfl | exact absurd h Bool.false_ne_true
  | .num i, v, h => by cases v <;> first | exact h | exact absurd h Bool.false_ne_true
  | .text x, v, h => h
def lfKind (P : Program) (w : World) : KeyKind P w Leaf where
  is := exIs
  hash := fun k => k.key.hash w
  inj := fun v a b ha hb => (leafKind P w).inj v a b (exIs_of ha) (exIs_of hb)
  byValue := fun k v h => (leafKind P w).byValue k v (exIs_of h)
  pyHash := fun hv h => (leafKind P w).pyHash (exIs_of hv) h
  eqBool := fun hu hv h => (leafKind P w).eqBool (exIs_of hu) (exIs_of hv) h
  «strs» := fun k x t v h => by
    have e := (leafKind P w).strs k x t v (exIs_of h)
    cases k with
    | none => exact absurd h Bool.false_ne_true
    | num i => exact absurd h Bool.false_ne_true
    | text y => exact e
theorem exIs_v {d : D} {u : Value} (h : leafy d = true) (r : RelV (lfV d) u) : exIs (lfK d) u = true := by
  cases d <;> simp [leafy] at h
  · cases r; rfl
  · obtain ⟨t, rfl⟩ := r; exact decide_eq_true rfl
  · obtain ⟨t, rfl⟩ := r; simp [lfK, exIs, Value.isStrOf]
theorem exIs_r {d : D} {u : Value} (h : leafy d = true) (r : exIs (lfK d) u = true) : RelV (lfV d) u := by
  cases d <;> simp [leafy] at h
  · cases u <;> first | rfl | exact absurd r Bool.false_ne_true
  · cases u <;> first | exact absurd r Bool.false_ne_true | skip
    have e := of_decide_eq_true r
    subst e; exact ⟨_, rfl⟩
  · obtain ⟨t, rfl⟩ := Value.isStrOf_shape (show Value.isStrOf _ u = true from r)
    exact ⟨t, rfl⟩

/-! ### entries -/
abbrev Ens := List (D × V × V)
def lookE (es : Ens) (k : D) : Option V := (es.find? fun e => decide (keyN e.1 = keyN k)).map (·.2.2)
def putE (es : Ens) (k : D) (x v : V) : Ens := if (es.any fun e => decide (keyN e.1 = keyN k)) = true then es.map (fun e => if keyN e.1 = keyN k then (e.1, e.2.1, v) else e) else es ++ [(k, x, v)]
def dropE (es : Ens) (k : D) : Ens := es.filter fun e => decide (keyN e.1 ≠ keyN k)
section
variable {κ : Type} [DecidableEq κ] {enc : D → κ}
abbrev EV (enc : D → κ) : Ens → List (κ × Value) → Prop := Paired fun e v => enc e.1 = v.1 ∧ RelV e.2.2 v.2
theorem EV.len {es : Ens} {vs : List (κ × Value)} (r : EV enc es vs) : es.length = vs.length := Paired.length r
theorem EV.look {k : D} : ∀ {es : Ens} {vs : List (κ × Value)}, EV enc es vs → (∀ e ∈ es, enc e.1 = enc k ↔ keyN e.1 = keyN k) → L2.RelO (lookE es k) (valueAt vs (enc k))
  | _, _, .nil, _ => True.intro
  | e :: es, v :: vs, .cons h t, hi => by
    have ih := EV.look t fun x hx => hi x (List.mem_cons_of_mem _ hx)
    obtain ⟨h1, h2⟩ := h
    by_cases q : keyN e.1 = keyN k
    · have q' : v.1 = enc k := h1.symm.trans ((hi e List.mem_cons_self).mpr q)
      have a : lookE (e :: es) k = some e.2.2 := by simp [lookE, List.find?_cons, q]
      have b : valueAt (v :: vs) (enc k) = some v.2 := by simp [valueAt, List.find?_cons, q']
      rw [a, b]; exact h2
    · have q' : ¬ v.1 = enc k := fun z => q ((hi e List.mem_cons_self).mp (h1.trans z))
      have a : lookE (e :: es) k = lookE es k := by simp [lookE, List.find?_cons, q]
      have b : valueAt (v :: vs) (enc k) = valueAt vs (enc k) := by simp [valueAt, List.find?_cons, q']
      rw [a, b]; exact ih
theorem EV.any {k : D} : ∀ {es : Ens} {vs : List (κ × Value)}, EV enc es vs → (∀ e ∈ es, enc e.1 = enc k ↔ keyN e.1 = keyN k) → (es.any fun e => decide (keyN e.1 = keyN k)) = vs.any fun v => decide (v.1 = enc k)
  | _, _, .nil, _ => rfl
  | e :: es, v :: vs, .cons h t, hi => by
    have ih := EV.any t fun x hx => hi x (List.mem_cons_of_mem _ hx)
    rw [List.any_cons, List.any_cons, ih, ← h.1]
    congr 1
    exact decide_eq_decide.mpr (hi e List.mem_cons_self).symm
theorem EV.repl {k : D} {y : V} {u : Value} (ry : RelV y u) : ∀ {es : Ens} {vs : List (κ × Value)}, EV enc es vs → (∀ e ∈ es, enc e.1 = enc k ↔ keyN e.1 = keyN k) →
    EV enc (es.map fun e => if keyN e.1 = keyN k then (e.1, e.2.1, y) else e) (vs.map fun kv => if kv.1 = enc k then (kv.1, u) else kv)
  | _, _, .nil, _ => .nil
  | e :: es, v :: vs, .cons h t, hi => by
    rw [List.map_cons, List.map_cons]
    refine .cons ?_ (EV.repl ry t fun x hx => hi x (List.mem_cons_of_mem _ hx))
    obtain ⟨h1, h2⟩ := h
    by_cases q : keyN e.1 = keyN k
    · have q' : v.1 = enc k := h1.symm.trans ((hi e List.mem_cons_self).mpr q)
      rw [if_pos q, if_pos q']; exact ⟨h1, ry⟩
    · have q' : ¬ v.1 = enc k := fun z => q ((hi e List.mem_cons_self).mp (h1.trans z))
      rw [if_neg q, if_neg q']; exact ⟨h1, h2⟩
theorem EV.put {k : D} {x y : V} {u : Value} (ry : RelV y u) {es : Ens} {vs : List (κ × Value)} (r : EV enc es vs) (hi : ∀ e ∈ es, enc e.1 = enc k ↔ keyN e.1 = keyN k) : EV enc (putE es k x y) (stored vs (enc k) u) := by
  unfold putE stored
  rw [r.any hi]
  split
  · exact r.repl ry hi
  · exact Paired.snoc r ⟨rfl, ry⟩
end
theorem putE_mem {es : Ens} {k : D} {x y : V} {e : D × V × V} (h : e ∈ putE es k x y) : (∃ z ∈ es, e.1 = z.1 ∧ e.2.1 = z.2.1) ∨ e = (k, x, y) := by
  unfold putE at h
  split at h
  · obtain ⟨z, hz, rfl⟩ := List.mem_map.mp h
    refine .inl ⟨z, hz, ?_⟩
    split <;> exact ⟨rfl, rfl⟩
  · rcases List.mem_append.mp h with h | h
    · exact .inl ⟨e, h, rfl, rfl⟩
    · exact .inr (by simpa using h)
theorem length_putE (es : Ens) (k : D) (x y : V) : (putE es k x y).length ≤ es.length + 1 := by
  unfold putE
  split
  · rw [List.length_map]; omega
  · simp
theorem putE_nodup {es : Ens} {k : D} {x y : V} (h : (es.map fun e => keyN e.1).Nodup) : ((putE es k x y).map fun e => keyN e.1).Nodup := by
  unfold putE
  split
  · rw [List.map_map]
    have : ((fun e : D × V × V => keyN e.1) ∘ fun e => if keyN e.1 = keyN k then (e.1, e.2.1, y) else e) = fun e => keyN e.1 := by
      funext e; simp only [Function.comp]; split <;> rfl
    rw [this]; exact h
  · rename_i q
    rw [List.map_append, List.nodup_append]
    refine ⟨h, by simp, fun a ha b hb e => q ?_⟩
    simp only [List.map_cons, List.map_nil, List.mem_singleton] at hb
    subst hb
    obtain ⟨z, hz, ez⟩ := List.mem_map.mp ha
    exact List.any_eq_true.mpr ⟨z, hz, decide_eq_true (ez.trans e)⟩

/-! ### a dict at p, its keys carried by value -/
section
variable {F : Fr} {p : Addr} {es : Ens} {h : Heap}
theorem nodup_enc {κ : Type} {enc : D → κ} : ∀ {es : Ens}, (es.map fun e => keyN e.1).Nodup → (∀ e ∈ es, ∀ e' ∈ es, enc e.1 = enc e'.1 → keyN e.1 = keyN e'.1) → (es.map fun e => enc e.1).Nodup
  | [], _, _ => List.nodup_nil
  | e :: es, h, hi => by
    simp only [List.map_cons, List.nodup_cons] at h ⊢
    refine ⟨fun z => h.1 ?_, nodup_enc h.2 fun a ha b hb => hi a (List.mem_cons_of_mem _ ha) b (List.mem_cons_of_mem _ hb)⟩
    obtain ⟨x, hx, ex⟩ := List.mem_map.mp z
    exact List.mem_map.mpr ⟨x, hx, hi x (List.mem_cons_of_mem _ hx) e List.mem_cons_self ex⟩
theorem leaf_fwd (d : DrOk F p es h) (hl : ∀ e ∈ es, leafy e.1 = true ∧ e.2.1 = lfV e.1) : ∃ vs, EV lfK es vs ∧ h.DictOf (lfKind F.P F.w) p vs := by
  obtain ⟨_, _, hn, o, raw, ep, ho, hc, hd, hp⟩ := d
  have gen : ∀ {es : Ens} {rs : List DictEntry}, Paired (fun (e : D × V × V) (r : DictEntry) => RelV e.2.1 r.key ∧ RelV e.2.2 r.val ∧ r.hash = (keyN e.1).hash F.w) es rs → (∀ e ∈ es, leafy e.1 = true ∧ e.2.1 = lfV e.1) →
      ∃ vs : List (Leaf × Value), EV lfK es vs ∧ Pairs (lfKind F.P F.w) rs vs ∧ vs.map (·.1) = es.map (fun e => lfK e.1) ∧ ∀ r ∈ rs, ∃ k, (lfKind F.P F.w).is k r.key = true ∧ r.hash = (lfKind F.P F.w).hash k := by
    intro es rs hp
    induction hp with
    | nil => exact fun _ => ⟨[], .nil, .nil, rfl, fun r hr => nomatch hr⟩
    | @cons e r es rs h1 _ ih =>
      intro hl
      obtain ⟨vs, a, b, c, d⟩ := ih fun x hx => hl x (List.mem_cons_of_mem _ hx)
      obtain ⟨q1, q2⟩ := hl e List.mem_cons_self
      have q3 : exIs (lfK e.1) r.key = true := exIs_v q1 (q2 ▸ h1.1)
      refine ⟨(lfK e.1, r.val) :: vs, .cons ⟨rfl, h1.2.1⟩ a, .cons q3 rfl b, by simp [c], fun x hx => ?_⟩
      rcases List.mem_cons.mp hx with rfl | hx
      · exact ⟨_, q3, by rw [h1.2.2, leafy_key q1]; rfl⟩
      · exact d x hx
  obtain ⟨vs, a, b, c, d⟩ := gen hp hl
  refine ⟨vs, a, o, raw, ep, ho, hc, hd, fun r hr => d r (by simpa using hr), b, ?_⟩
  rw [c]
  exact nodup_enc hn fun e he e' he' z => (lfK_iff (hl e he).1 (hl e' he').1).mp z
theorem leaf_back {vs : List (Leaf × Value)} (hz : es.length ≤ sizeLine) (hm : (p == sysModules) = false) (hn : (es.map fun e => keyN e.1).Nodup) (r : EV lfK es vs) (d : h.DictOf (lfKind F.P F.w) p vs) (hl : ∀ e ∈ es, leafy e.1 = true ∧ e.2.1 = lfV e.1) : DrOk F p es h := by
  obtain ⟨o, raw, ep, ho, hc, hd, hk, hp, _⟩ := d
  refine ⟨hz, hm, hn, o, raw, ep, ho, hc, hd, ?_⟩
  have gen : ∀ {rs : List DictEntry} {vs : List (Leaf × Value)}, Pairs (lfKind F.P F.w) rs vs → ∀ {es : Ens}, EV lfK es vs → (∀ r ∈ rs, ∃ k, (lfKind F.P F.w).is k r.key = true ∧ r.hash = (lfKind F.P F.w).hash k) → (∀ e ∈ es, leafy e.1 = true ∧ e.2.1 = lfV e.1) →
      Paired (fun (e : D × V × V) (r : DictEntry) => RelV e.2.1 r.key ∧ RelV e.2.2 r.val ∧ r.hash = (keyN e.1).hash F.w) es rs := by
    intro rs vs hp
    induction hp with
    | nil => intro es r _ _; cases r; exact .nil
    | @cons r v rs vs h1 h2 _ ih =>
      intro es q hk hl
      cases q with
      | @cons e _ es _ q1 q2 =>
        obtain ⟨a1, a2⟩ := hl e List.mem_cons_self
        refine .cons ⟨?_, ?_, ?_⟩ (ih q2 (fun x hx => hk x (List.mem_cons_of_mem _ hx)) fun x hx => hl x (List.mem_cons_of_mem _ hx))
        · rw [a2]; exact exIs_r a1 (q1.1 ▸ h1)
        · rw [h2]; exact q1.2
        · obtain ⟨k, k1, k2⟩ := hk r List.mem_cons_self
          have : k = lfK e.1 := (lfKind F.P F.w).inj _ _ _ k1 (q1.1 ▸ h1)
          rw [k2, this, leafy_key a1]; rfl
  exact gen hp r (fun x hx => hk x (by simpa using hx)) hl
/-- .. its keys tuples -/
abbrev EY : Ens → List (NestedKey × Addr × Value) → Prop := Paired fun e y => keyN e.1 = y.1 ∧ e.2.1 = .ref y.2.1 ∧ RelV e.2.2 y.2.2
theorem tup_fwd (d : DrOk F p es h) (hl : ∀ e ∈ es, ∃ b, e.2.1 = .ref b ∧ (nestedKind F.P F.w).is h (keyN e.1) b) : ∃ ys, EY es ys ∧ h.DictOfH (nestedKind F.P F.w) p ys := by
  obtain ⟨_, _, hn, o, raw, ep, ho, hc, hd, hp⟩ := d
  have gen : ∀ {es : Ens} {rs : List DictEntry}, Paired (fun (e : D × V × V) (r : DictEntry) => RelV e.2.1 r.key ∧ RelV e.2.2 r.val ∧ r.hash = (keyN e.1).hash F.w) es rs → (∀ e ∈ es, ∃ b, e.2.1 = .ref b ∧ (nestedKind F.P F.w).is h (keyN e.1) b) →
      ∃ ys, EY es ys ∧ rs = ys.map (entryOfKey (nestedKind F.P F.w)) ∧ (∀ y ∈ ys, (nestedKind F.P F.w).is h y.1 y.2.1) ∧ ys.map (·.1) = es.map (fun e => keyN e.1) := by
    intro es rs hp
    induction hp with
    | nil => exact fun _ => ⟨[], .nil, rfl, (fun _ hx => nomatch hx), rfl⟩
    | @cons e r es rs h1 _ ih =>
      intro hl
      obtain ⟨ys, a, b, c, d⟩ := ih fun x hx => hl x (List.mem_cons_of_mem _ hx)
      obtain ⟨b0, q1, q2⟩ := hl e List.mem_cons_self
      have q3 : r.key = .ref b0 := by have := h1.1; rw [q1] at this; exact this
      refine ⟨(keyN e.1, b0, r.val) :: ys, .cons ⟨rfl, q1, h1.2.1⟩ a, ?_, fun y hy => ?_, by simp [d]⟩
      · rw [List.map_cons, ← b]
        congr 1
        obtain ⟨rh, rk, rv⟩ := r
        simp only at h1 q3
        subst q3
        simp only [entryOfKey, h1.2.2]; rfl
      · rcases List.mem_cons.mp hy with rfl | hy
        · exact q2
        · exact c y hy
  obtain ⟨ys, a, b, c, e⟩ := gen hp hl
  exact ⟨ys, a, o, raw, ep, ho, hc, hd, b, c, by rw [e]; exact hn⟩
theorem tup_back {ys : List (NestedKey × Addr × Value)} (hz : es.length ≤ sizeLine) (hm : (p == sysModules) = false) (r : EY es ys) (d : h.DictOfH (nestedKind F.P F.w) p ys) : DrOk F p es h := by
  obtain ⟨o, raw, ep, ho, hc, hd, he, _, hn⟩ := d
  have gen : ∀ {es : Ens} {ys : List (NestedKey × Addr × Value)}, EY es ys → ys.map (·.1) = es.map (fun e => keyN e.1) ∧ Paired (fun (e : D × V × V) (r : DictEntry) => RelV e.2.1 r.key ∧ RelV e.2.2 r.val ∧ r.hash = (keyN e.1).hash F.w) es (ys.map (entryOfKey (nestedKind F.P F.w))) := by
    intro es ys r
    induction r with
    | nil => exact ⟨rfl, .nil⟩
    | @cons e y es ys h1 _ ih =>
      refine ⟨by simp [ih.1, h1.1], .cons ⟨?_, h1.2.2, ?_⟩ ih.2⟩
      · rw [h1.2.1]; rfl
      · rw [h1.1]; rfl
  obtain ⟨a, b⟩ := gen r
  refine ⟨hz, hm, by rw [← a]; exact hn, o, raw, ep, ho, hc, hd, ?_⟩
  rw [he]; exact b
theorem dr_raw (d : DrOk F p es h) : ∃ raw ep, h.DictRaw p raw ep ∧ raw.size = es.length := by
  obtain ⟨_, _, _, o, raw, ep, ho, hc, hd, hp⟩ := d
  exact ⟨raw, ep, ⟨o, ho, hc, hd⟩, by rw [← Array.length_toList]; exact (Paired.length hp).symm⟩
theorem drok_ok {P : Program} {w : World} {H : Hp} (d : DrOk F p es h) : ObjOk P w H h p (dR F p es) := by
  obtain ⟨a, b, c, o, raw, ep, ho, r⟩ := id d
  refine ⟨d, ⟨o, ho⟩, fun h1 h2 ⟨a, b, c, o, raw, ep, ho, r⟩ k => ⟨a, b, c, o, raw, ep, k _ ho, r⟩⟩
theorem drok_of {P : Program} {w : World} {H : Hp} (x : ObjOk P w H h p (dR F p es)) : DrOk F p es h := x.1
end
end MV

set_option Elab.async false
set_option linter.all false
set_option maxRecDepth 100000
set_option maxHeartbeats 4000000
namespace MV
open PySem L2

/-! ### dicts: what may be asked, at the machine's level -/
def dKind (kvs : List (D × D)) (k : D) : Bool := (leafy k && kvs.all fun q => leafy q.1) || ((isTupD k && kyb 8 k) && kvs.all fun q => isTupD q.1)
theorem dk_noOb {kvs : List (D × D)} {k : D} (h : dKind kvs k = true) : isOb kvs = false := by
  cases kvs with
  | nil => rfl
  | cons q r => obtain ⟨a, b⟩ := q; cases a <;> first | rfl | simp [dKind, leafy, isTupD] at h
section
variable {K : Fr} {O : List Addr} {H H' : Hp}
theorem rpkv_leaf : ∀ {kvs : List (D × D)} {es : Ens}, RpKv K O H es kvs → (∀ q ∈ kvs, leafy q.1 = true) → ∀ e ∈ es, leafy e.1 = true ∧ e.2.1 = lfV e.1
  | [], _, h, _, e, he => by cases h; cases he
  | (k, d) :: kvs, _, h, hl, e, he => by
    cases h with
    | cons h0 h1 h2 h3 =>
      rcases List.mem_cons.mp he with rfl | he
      · have q := hl _ List.mem_cons_self
        exact ⟨q, leaf_v q (.inl h1 : Rs K O H H _ _)⟩
      · exact rpkv_leaf h3 (fun q hq => hl q (List.mem_cons_of_mem _ hq)) e he
theorem rpkv_len : ∀ {kvs : List (D × D)} {es : Ens}, RpKv K O H es kvs → es.length = kvs.length
  | [], _, h => by cases h; rfl
  | (k, d) :: kvs, _, h => by cases h with | cons h0 h1 h2 h3 => simp [rpkv_len h3]
end
section
variable {X : Cx} {pins : List (Addr × Obj)} {σ : St} {H : Hp} {s : Shared} {O : List Addr}
theorem key_nst (I : Inv X pins σ H s) {k : D} {x : V} {u : Value} (hk : kyb 8 k = true) (ht : isTupD k = true) (r : Rp X.fr O H x k) (ru : RelV x u) : ∃ b, x = .ref b ∧ u = .ref b ∧ (nestedKind X.prog X.w).is s.heap (keyN k) b := by
  cases k <;> simp [isTupD] at ht
  cases r with
  | @tup a xs ds hs ha =>
    cases ru
    exact ⟨a, rfl, rfl, nested_is I 8 _ _ _ hk (.tup hs ha) rfl, kyb_depth 8 _ hk⟩
theorem rpkv_tup (I : Inv X pins σ H s) : ∀ {kvs : List (D × D)} {es : Ens}, RpKv X.fr O H es kvs → (∀ q ∈ kvs, isTupD q.1 = true) → ∀ e ∈ es, ∃ b, e.2.1 = .ref b ∧ (nestedKind X.prog X.w).is s.heap (keyN e.1) b
  | [], _, h, _, e, he => by cases h; cases he
  | (k, d) :: kvs, _, h, hl, e, he => by
    cases h with
    | @cons x v vs _ _ _ h0 h1 h2 h3 =>
      rcases List.mem_cons.mp he with rfl | he
      · have q := hl (k, d) List.mem_cons_self
        have : ∃ b, x = .ref b := by
          cases k <;> simp [isTupD] at q
          cases h1; exact ⟨_, rfl⟩
        obtain ⟨b, rfl⟩ := this
        obtain ⟨b', e1, e2, e3⟩ := key_nst I h0 q h1 (u := .ref b) rfl
        cases e1
        exact ⟨_, rfl, e3⟩
      · exact rpkv_tup I h3 (fun q hq => hl q (List.mem_cons_of_mem _ hq)) e he
theorem EY.ev {es : Ens} {ys : List (NestedKey × Addr × Value)} (r : EY es ys) : EV keyN es (pairsH ys) := by
  unfold pairsH
  induction r with
  | nil => exact .nil
  | cons h _ ih => rw [List.map_cons]; exact .cons ⟨h.1, h.2.2⟩ ih
theorem EY.look {es : Ens} {ys : List (NestedKey × Addr × Value)} (r : EY es ys) (k : D) : L2.RelO (lookE es k) ((atKey ys (keyN k)).map (·.2)) := by
  rw [← valueAt_pairsH]
  exact r.ev.look fun _ _ => Iff.rfl
theorem EY.put {es : Ens} {ys : List (NestedKey × Addr × Value)} {k : D} {b : Addr} {y : V} {u : Value} (r : EY es ys) (ry : RelV y u) : EY (putE es k (.ref b) y) (storedH ys (keyN k) b u) := by
  have e : (es.any fun e => decide (keyN e.1 = keyN k)) = (atKey ys (keyN k)).isSome := by
    rw [r.ev.any fun _ _ => Iff.rfl, any_pairsH]
  unfold putE storedH
  rw [e]
  split
  · rename_i hq
    clear e hq
    induction r with
    | nil => exact .nil
    | @cons e y es ys h _ ih =>
      rw [List.map_cons, List.map_cons]
      refine .cons ?_ ih
      unfold putAt
      by_cases q : keyN e.1 = keyN k
      · rw [if_pos q, if_pos (h.1.symm.trans q)]; exact ⟨h.1, h.2.1, ry⟩
      · rw [if_neg q, if_neg (fun z => q (h.1.trans z))]; exact h
  · exact Paired.snoc r ⟨rfl, rfl, ry⟩
variable {p : Addr} {es : Ens} {kvs : List (D × D)} {k : D} {x v d : V} {u r : Value} {A : Around} {E : Value → Shared → Prop} {o : Option V}
theorem dr_get (I : Inv X pins σ H s) (e : H p = some (dR X.fr p es)) : DrOk X.fr p es s.heap := drok_of (I.hok p _ e)
theorem dk_cases (I : Inv X pins σ H s) (e : H p = some (dR X.fr p es)) (rk : RpKv X.fr O H es kvs) (hk : dKind kvs k = true) (rx : Rs X.fr O H H x k) (ru : RelV x u) :
    (leafy k = true ∧ x = lfV k ∧ (lfKind X.prog X.w).is (lfK k) u = true ∧ (∀ e ∈ es, leafy e.1 = true ∧ e.2.1 = lfV e.1) ∧ ∃ vs, EV lfK es vs ∧ s.heap.DictOf (lfKind X.prog X.w) p vs) ∨
    (∃ b, x = .ref b ∧ u = .ref b ∧ (nestedKind X.prog X.w).is s.heap (keyN k) b ∧ (∀ e ∈ es, ∃ b, e.2.1 = .ref b ∧ (nestedKind X.prog X.w).is s.heap (keyN e.1) b) ∧ ∃ ys, EY es ys ∧ s.heap.DictOfH (nestedKind X.prog X.w) p ys) := by
  have d := dr_get I e
  simp only [dKind, Bool.or_eq_true, Bool.and_eq_true, List.all_eq_true] at hk
  rcases hk with ⟨h1, h2⟩ | ⟨⟨h1, h0⟩, h2⟩
  · have hl := rpkv_leaf rk h2
    have ex := leaf_v h1 rx
    exact .inl ⟨h1, ex, exIs_v h1 (ex ▸ ru), hl, leaf_fwd (F := X.fr) d hl⟩
  · have hl := rpkv_tup I rk h2
    obtain ⟨b, e1, e2, e3⟩ := key_nst I h0 h1 (tup_rp h1 rx) ru
    exact .inr ⟨b, e1, e2, e3, hl, tup_fwd (F := X.fr) d hl⟩
theorem room_n (hu : A.units + 64 < cLine) : (nestedKind X.prog X.w).room A.in1 := by
  show A.in1.units + 8 < cLine
  rw [Around.in1_units]; omega
theorem hiL (hk : leafy k = true) (hl : ∀ e ∈ es, leafy e.1 = true ∧ e.2.1 = lfV e.1) : ∀ e ∈ es, lfK e.1 = lfK k ↔ keyN e.1 = keyN k := fun e he => lfK_iff (hl e he).1 hk
/-- d[k], there -/
theorem e_getItem {Q : Value → Shared → Prop} (hu : A.units + 64 < cLine) (I : Inv X pins σ H s) (e : H p = some (dR X.fr p es)) (rk : RpKv X.fr O H es kvs) (hk : dKind kvs k = true) (rx : Rs X.fr O H H x k) (ru : RelV x u) (l : lookE es k = some v)
    (h : ∀ w' s', Inv X pins σ H s' → RelV v w' → Q w' s') : wpAny (model X.prog X.w) A (getItem (.ref p) u) Q E s := by
  rcases dk_cases I e rk hk rx ru with ⟨h1, _, h3, h4, vs, r, dd⟩ | ⟨b, rfl, rfl, h3, h4, ys, r, dd⟩
  · obtain ⟨w', hw, rw'⟩ := RelO.some_of (v := v) (o := valueAt vs (lfK k)) (by rw [← l]; exact r.look (hiL h1 h4))
    exact wpAny_getItem_of h3 dd.mapOf hw (h w' _ (I.tok _) rw')
  · obtain ⟨w', hw, rw'⟩ := RelO.some_of (v := v) (o := (atKey ys (keyN k)).map (·.2)) (by rw [← l]; exact r.look k)
    obtain ⟨q, hq, hq2⟩ := Option.map_eq_some_iff.mp hw
    refine wpAny_getItem_heap (room_n hu) h3 dd hq ?_
    rw [hq2]
    exact h w' _ (I.tok _) rw'
theorem e_in {Q : Value → Shared → Prop} (hu : A.units + 64 < cLine) (I : Inv X pins σ H s) (e : H p = some (dR X.fr p es)) (rk : RpKv X.fr O H es kvs) (hk : dKind kvs k = true) (rx : Rs X.fr O H H x k) (ru : RelV x u)
    (h : ∀ s', Inv X pins σ H s' → Q (.bool (lookE es k).isSome) s') : wpAny (model X.prog X.w) A (compareOp .In u (.ref p)) Q E s := by
  have hd := (dr_get I e).2.1
  rcases dk_cases I e rk hk rx ru with ⟨h1, _, h3, h4, vs, r, dd⟩ | ⟨b, rfl, rfl, h3, h4, ys, r, dd⟩
  · refine wpAny_in_of h3 hd dd.mapOf ?_
    rw [← (r.look (hiL h1 h4)).isSome_eq]
    exact h _ (I.tok _)
  · refine wpAny_in_heap (room_n hu) h3 hd dd ?_
    have q := (r.look k).isSome_eq
    rw [Option.isSome_map] at q
    rw [← q]
    exact h _ (I.tok _)
theorem e_notIn {Q : Value → Shared → Prop} (hu : A.units + 64 < cLine) (I : Inv X pins σ H s) (e : H p = some (dR X.fr p es)) (rk : RpKv X.fr O H es kvs) (hk : dKind kvs k = true) (rx : Rs X.fr O H H x k) (ru : RelV x u)
    (h : ∀ s', Inv X pins σ H s' → Q (.bool (!(lookE es k).isSome)) s') : wpAny (model X.prog X.w) A (compareOp .NotIn u (.ref p)) Q E s := by
  have hd := (dr_get I e).2.1
  rcases dk_cases I e rk hk rx ru with ⟨h1, _, h3, h4, vs, r, dd⟩ | ⟨b, rfl, rfl, h3, h4, ys, r, dd⟩
  · refine wpAny_notIn_of h3 hd dd.mapOf ?_
    rw [← (r.look (hiL h1 h4)).isSome_eq]
    exact h _ (I.tok _)
  · refine notIn_keyed (room_n hu) h3 hd ⟨ys, dd, rfl⟩ ?_
    rw [valueAt_pairsH, ← (r.look k).isSome_eq]
    exact h _ (I.tok _)
theorem e_get2 {Q : Value → Shared → Prop} (hu : A.units + 64 < cLine) (I : Inv X pins σ H s) (e : H p = some (dR X.fr p es)) (rk : RpKv X.fr O H es kvs) (hk : dKind kvs k = true) (rx : Rs X.fr O H H x k) (ru : RelV x u) (rd : RelV d r)
    (h : ∀ w' s', Inv X pins σ H s' → RelV ((lookE es k).getD d) w' → Q w' s') : wpAny (model X.prog X.w) A (call (.builtin "dict.get") [.ref p, u, r]) Q E s := by
  have hd := (dr_get I e).2.1
  rcases dk_cases I e rk hk rx ru with ⟨h1, _, h3, h4, vs, rr, dd⟩ | ⟨b, rfl, rfl, h3, h4, ys, rr, dd⟩
  · exact call_meetsIn PySem.F.slot_dict_get dd.typeIs PySem.F.entry_dict_get (PySem.F.args_dict_get_3 _ _ _) (meets_dict_get_default (lfKind X.prog X.w) p h3 hd r) ⟨_, dd.mapOf, h _ _ (I.tok _) ((rr.look (hiL h1 h4)).getD rd)⟩
  · exact call_meetsIn PySem.F.slot_dict_get dd.typeIs PySem.F.entry_dict_get (PySem.F.args_dict_get_3 _ _ _) (meetsH_dict_get_default (nestedKind X.prog X.w) p b hd r) ⟨room_n hu, keyN k, ys, h3, dd, h _ _ (I.tok _) ((rr.look k).getD rd)⟩
theorem e_get1 {Q : Value → Shared → Prop} (hu : A.units + 64 < cLine) (I : Inv X pins σ H s) (e : H p = some (dR X.fr p es)) (rk : RpKv X.fr O H es kvs) (hk : dKind kvs k = true) (rx : Rs X.fr O H H x k) (ru : RelV x u)
    (h : ∀ w' s', Inv X pins σ H s' → RelV ((lookE es k).getD .non) w' → Q w' s') : wpAny (model X.prog X.w) A (call (.builtin "dict.get") [.ref p, u]) Q E s := by
  have hd := (dr_get I e).2.1
  rcases dk_cases I e rk hk rx ru with ⟨h1, _, h3, h4, vs, rr, dd⟩ | ⟨b, rfl, rfl, h3, h4, ys, rr, dd⟩
  · exact call_meetsIn PySem.F.slot_dict_get dd.typeIs PySem.F.entry_dict_get (PySem.F.args_dict_get_2 _ _) (meets_dict_get (lfKind X.prog X.w) p h3 hd) ⟨_, dd.mapOf, h _ _ (I.tok _) ((rr.look (hiL h1 h4)).getD rfl)⟩
  · exact call_meetsIn PySem.F.slot_dict_get dd.typeIs PySem.F.entry_dict_get (PySem.F.args_dict_get_2 _ _) (meetsH_dict_get (nestedKind X.prog X.w) p b hd) ⟨room_n hu, keyN k, ys, h3, dd, h _ _ (I.tok _) ((rr.look k).getD rfl)⟩
theorem e_write {h' : Heap} {t' : Nat} {es' : Ens} (I : Inv X pins σ H s) (e : H p = some (dR X.fr p es)) (hs : Heap.SameBut p s.heap h') (d : DrOk X.fr p es' h') : Inv X pins σ (upd H p (dR X.fr p es')) { s with heap := h', toks := t' } := by
  have new : ObjOk X.prog X.w (upd H p (dR X.fr p es')) h' p (dR X.fr p es') := drok_ok d
  exact d_write I (by rw [e]; exact True.intro) hs (let ⟨_, _, _, o, _, _, ho, _⟩ := d; ⟨o, ho⟩) new
theorem put_leaf (h1 : leafy k = true) (ex : x = lfV k) (hl : ∀ e ∈ es, leafy e.1 = true ∧ e.2.1 = lfV e.1) : ∀ e ∈ putE es k x v, leafy e.1 = true ∧ e.2.1 = lfV e.1 := fun e he => by
  rcases putE_mem he with ⟨z, hz, e1, e2⟩ | rfl
  · rw [e1, e2]; exact hl z hz
  · exact ⟨h1, ex⟩
/-- d[k] = v -/
theorem e_setItem {Q : Unit → Shared → Prop} (hu : A.units + 64 < cLine) (I : Inv X pins σ H s) (e : H p = some (dR X.fr p es)) (rk : RpKv X.fr O H es kvs) (hk : dKind kvs k = true) (rx : Rs X.fr O H H x k) (ru : RelV x u) (rv : RelV v r) (hz : es.length < sizeLine)
    (h : ∀ s', Inv X pins σ (upd H p (dR X.fr p (putE es k x v))) s' → Q () s') : wpAny (model X.prog X.w) A (setItem (.ref p) u r) Q E s := by
  have hd := dr_get I e
  have hz' : (putE es k x v).length ≤ sizeLine := by have := length_putE es k x v; omega
  rcases dk_cases I e rk hk rx ru with ⟨h1, h2, h3, h4, vs, rr, dd⟩ | ⟨b, rfl, rfl, h3, h4, ys, rr, dd⟩
  · refine wpAny_setItem_pairs (hsz := by rw [← rr.len]; omega) h3 dd fun h' dd' hs => h _ (e_write I e hs ?_)
    exact leaf_back (F := X.fr) hz' hd.2.1 (putE_nodup hd.2.2.1) (rr.put rv (hiL h1 h4)) dd' (put_leaf h1 h2 h4)
  · refine wpAny_setItem_heap (hsz := by rw [← Paired.length rr]; omega) (room_n hu) h3 dd fun h' dd' hs => h _ (e_write I e hs ?_)
    exact tup_back (F := X.fr) hz' hd.2.1 (rr.put rv) dd'
/-- d.setdefault(k, z) -/
theorem e_setd {Q : Value → Shared → Prop} (hu : A.units + 64 < cLine) (I : Inv X pins σ H s) (e : H p = some (dR X.fr p es)) (rk : RpKv X.fr O H es kvs) (hk : dKind kvs k = true) (rx : Rs X.fr O H H x k) (ru : RelV x u) (rv : RelV v r) (hz : es.length < sizeLine)
    (h1' : ∀ y, lookE es k = some y → ∀ (w' : Value) (s' : Shared), Inv X pins σ H s' → RelV y w' → Q w' s') (h2' : lookE es k = none → ∀ (w' : Value) (s' : Shared), Inv X pins σ (upd H p (dR X.fr p (putE es k x v))) s' → RelV v w' → Q w' s') :
    wpAny (model X.prog X.w) A (call (.builtin "dict.setdefault") [.ref p, u, r]) Q E s := by
  have hd := dr_get I e
  have hz' : (putE es k x v).length ≤ sizeLine := by have := length_putE es k x v; omega
  rcases dk_cases I e rk hk rx ru with ⟨h1, h2, h3, h4, vs, rr, dd⟩ | ⟨b, rfl, rfl, h3, h4, ys, rr, dd⟩
  · refine call_meetsIn PySem.F.slot_dict_setdefault dd.typeIs PySem.F.entry_dict_setdefault (PySem.F.args_dict_setdefault_3 _ _ _) (kt_meets_setdefault (lfKind X.prog X.w) p h3 hd.2.1 r) ⟨vs, dd, by rw [← rr.len]; omega, fun w hw => ?_, fun hn h' dd' hs => ?_⟩
    · have q := rr.look (hiL h1 h4)
      rw [hw] at q
      cases q0 : lookE es k with
      | none => rw [q0] at q; exact (show False from q).elim
      | some v0 => rw [q0] at q; exact h1' v0 q0 _ _ (I.tok _) q
    · have q := rr.look (hiL h1 h4)
      rw [hn] at q
      cases q0 : lookE es k with
      | some v0 => rw [q0] at q; exact (show False from q).elim
      | none => exact h2' q0 _ _ (e_write (t' := s.toks + 1) I e hs (leaf_back (F := X.fr) hz' hd.2.1 (putE_nodup hd.2.2.1) (rr.put rv (hiL h1 h4)) dd' (put_leaf h1 h2 h4))) rv
  · refine call_setdefault_heap (hsz := by rw [← Paired.length rr]; omega) (room_n hu) h3 hd.2.1 dd (fun q hq => ?_) fun hn h' dd' hs => ?_
    · have z := rr.look k
      rw [hq] at z
      cases q0 : lookE es k with
      | none => rw [q0] at z; exact (show False from z).elim
      | some v0 => rw [q0] at z; exact h1' v0 q0 _ _ (I.tok _) z
    · have z := rr.look k
      rw [hn] at z
      cases q0 : lookE es k with
      | some v0 => rw [q0] at z; exact (show False from z).elim
      | none => exact h2' q0 _ _ (e_write I e hs (tup_back (F := X.fr) hz' hd.2.1 (rr.put rv) dd')) rv
/-- len(d) -/
theorem len_body_raw {prog : Program} {w : World} {A : Around} {E : Value → Shared → Prop} {s : Shared} {d : Addr} {es : Array DictEntry} {ep : Nat} {Q : Value → Shared → Prop} (hd : (d == sysModules) = false) (hm : s.heap.DictRaw d es ep) (hfit : (es.size : Int) < 2 ^ 63)
    (h : Q (.int es.size (s.toks + 1)) { s with toks := s.toks + 1 + 1 }) : wpAny (model prog w) A (Builtin.«len» ⟨[.ref d], []⟩) (fun fin s' => ∃ r, fin = .done (.ret r) ∧ Q r s') E s := by
  unfold Builtin.«len»
  refine wpAny_bind (m := oneArg "len" _) (wpAny_pure ?_)
  refine wpAny_bind (m := callSpecial? (.ref d) (Str.ofString "__len__")) (wpAny_callSpecial?_slot (name := Str.ofString "__len__") hm.typeIs F.slot_dict_len
    (call_len_raw hd hm ?_))
  show wpAny _ _ _ _ _ { s with toks := s.toks + 1 }
  refine wpAny_bind (wpAny_holding (wpAny_pure ?_))
  refine wpAny_bind (wpAny_letGo ?_)
  show wpAny _ _ (if ((es.size : Nat) : Int) < 0 then _ else _) _ _ _
  rw [if_neg (by omega)]
  show wpAny _ _ (if ((es.size : Nat) : Int) ≥ 2 ^ 63 then _ else _) _ _ _
  rw [if_neg (by omega)]
  exact wpAny_bind (wpAny_mkInt (wpAny_pure ⟨_, rfl, h⟩))
theorem e_len {Q : Value → Shared → Prop} (I : Inv X pins σ H s) (e : H p = some (dR X.fr p es)) (h : ∀ t s', Inv X pins σ H s' → Q (.int es.length t) s') : wpAny (model X.prog X.w) A (call (.builtin "len") [.ref p]) Q E s := by
  have hd := dr_get I e
  obtain ⟨raw, ep, hr, hs⟩ := dr_raw hd
  have hz := hd.1
  refine Calls.call_function_entry kind_len plain_len entry_len (args_len1 _) (len_body_raw hd.2.1 hr (by rw [hs]; rw [sizeLine_eq] at hz; omega) ?_)
  rw [hs]
  exact h _ _ (I.tok _)
theorem e_type (I : Inv X pins σ H s) (e : H p = some (dR X.fr p es)) : s.TypeIs (.ref p) "dict" ∧ (∀ b, Value.ref p = .ref b → ∃ ob, s.heap.get? b = some ob ∧ ob.dict = none) ∧ (p == sysModules) = false := by
  obtain ⟨_, hm, _, o, raw, ep, ho, hc, _⟩ := dr_get I e
  exact ⟨⟨o, ho, hc.1⟩, fun b q => by cases q; exact ⟨o, ho, hc.2.1⟩, hm⟩
end
/-! ### a new dict -/
theorem dr_empty (F : Fr) (h : Heap) (hb : sysModules < h.objs.size) : DrOk F h.objs.size [] (h.push { cls := .type "dict", data := .dict #[] }) :=
  ⟨Nat.zero_le _, beq_eq_false_iff_ne.mpr (Ne.symm (Nat.ne_of_lt hb)), List.nodup_nil, _, #[], 0, Heap.get?_push_size _ rfl, ⟨rfl, rfl, rfl⟩, rfl, .nil⟩
def tDNewE (F : Fr) : TE := fun _ H Q => ∀ p, H p = none → Q (.ref p) (upd H p (dR F p []))
theorem pe_dnewE {X : Cx} {pos : Pos} : PE X (.Dict [] [] pos) (tDNewE X.fr) := ⟨fun pins s σ H Q I h =>
  wpAny_Dict_empty ⟨.ref s.heap.objs.size, _, I.laid (a := s.heap.objs.size) (o := dR X.fr s.heap.objs.size []) (t' := s.toks) (fun _ _ q => Heap.get?_push_of_some _ q) (Nat.le_refl _) (drok_ok (dr_empty X.fr s.heap I.big)), rfl, h _ (I.hok.fresh (Nat.le_refl _))⟩⟩
end MV

set_option Elab.async false
set_option linter.all false
set_option maxRecDepth 100000
set_option maxHeartbeats 4000000
namespace MV
open PySem L2 PySem.Spec PyProof.Rows

/-! ### dicts as data -/
def dGet (kvs : List (D × D)) (k : D) : Option D := (kvs.find? fun q => decide (keyN q.1 = keyN k)).map (·.2)
def dPut (kvs : List (D × D)) (k d : D) : List (D × D) := if (kvs.any fun q => decide (keyN q.1 = keyN k)) = true then kvs.map (fun q => if keyN q.1 = keyN k then (q.1, d) else q) else kvs ++ [(k, d)]
def dDrop (kvs : List (D × D)) (k : D) : List (D × D) := kvs.filter fun q => decide (keyN q.1 ≠ keyN k)
section
variable {K : Fr} {O : List Addr} {H : Hp} {k : D}
theorem get_rel : ∀ {kvs : List (D × D)} {es : Ens}, RpKv K O H es kvs → (lookE es k = none ∧ dGet kvs k = none) ∨ ∃ v d, lookE es k = some v ∧ dGet kvs k = some d ∧ Rp K O H v d
  | [], _, h => by cases h; exact .inl ⟨rfl, rfl⟩
  | (k0, d0) :: kvs, _, h => by
    cases h with
    | @cons x v vs _ _ _ h0 h1 h2 h3 =>
      by_cases q : keyN k0 = keyN k
      · exact .inr ⟨v, d0, by simp [lookE, List.find?_cons, q], by simp [dGet, List.find?_cons, q], h2⟩
      · have a : lookE ((k0, x, v) :: vs) k = lookE vs k := by simp [lookE, List.find?_cons, q]
        have b : dGet ((k0, d0) :: kvs) k = dGet kvs k := by simp [dGet, List.find?_cons, q]
        rw [a, b]; exact get_rel h3
theorem look_some {kvs : List (D × D)} {es : Ens} (h : RpKv K O H es kvs) : (lookE es k).isSome = (dGet kvs k).isSome := by
  rcases get_rel (k := k) h with ⟨a, b⟩ | ⟨v, d, a, b, _⟩ <;> rw [a, b] <;> rfl
theorem any_kv : ∀ {kvs : List (D × D)} {es : Ens}, RpKv K O H es kvs → (es.any fun e => decide (keyN e.1 = keyN k)) = kvs.any fun q => decide (keyN q.1 = keyN k)
  | [], _, h => by cases h; rfl
  | (k0, d0) :: kvs, _, h => by cases h with | cons h0 h1 h2 h3 => rw [List.any_cons, List.any_cons, any_kv h3]
theorem repl_kv {v : V} {d : D} (hv : Rp K O H v d) : ∀ {kvs : List (D × D)} {es : Ens}, RpKv K O H es kvs → RpKv K O H (es.map fun e => if keyN e.1 = keyN k then (e.1, e.2.1, v) else e) (kvs.map fun q => if keyN q.1 = keyN k then (q.1, d) else q)
  | [], _, h => by cases h; exact .nil
  | (k0, d0) :: kvs, _, h => by
    cases h with
    | cons h0 h1 h2 h3 =>
      rw [List.map_cons, List.map_cons]
      by_cases q : keyN k0 = keyN k
      · simp only [q, if_true]; exact .cons h0 h1 hv (repl_kv hv h3)
      · simp only [q, if_false]; exact .cons h0 h1 h2 (repl_kv hv h3)
theorem snoc_kv {x v : V} {d : D} (hk : kyb 8 k = true) (hx : Rp K O H x k) (hv : Rp K O H v d) : ∀ {kvs : List (D × D)} {es : Ens}, RpKv K O H es kvs → RpKv K O H (es ++ [(k, x, v)]) (kvs ++ [(k, d)])
  | [], _, h => by cases h; exact .cons hk hx hv .nil
  | (k0, d0) :: kvs, _, h => by cases h with | cons h0 h1 h2 h3 => exact .cons h0 h1 h2 (snoc_kv hk hx hv h3)
theorem put_rel {x v : V} {d : D} (hk : kyb 8 k = true) (hx : Rp K O H x k) (hv : Rp K O H v d) {kvs : List (D × D)} {es : Ens} (h : RpKv K O H es kvs) : RpKv K O H (putE es k x v) (dPut kvs k d) := by
  unfold putE dPut
  rw [any_kv h]
  split
  · exact repl_kv hv h
  · exact snoc_kv hk hx hv h
theorem dk_kyb {kvs : List (D × D)} (h : dKind kvs k = true) : kyb 8 k = true := by
  simp only [dKind, Bool.or_eq_true, Bool.and_eq_true] at h
  rcases h with ⟨h, _⟩ | ⟨⟨_, h⟩, _⟩
  · cases k <;> simp [leafy] at h <;> rfl
  · exact h
theorem dk_rp {kvs : List (D × D)} {x : V} (h : dKind kvs k = true) (r : Rs K O H H x k) : Rp K O H x k := by
  simp only [dKind, Bool.or_eq_true, Bool.and_eq_true] at h
  rcases h with ⟨h, _⟩ | ⟨⟨h, _⟩, _⟩
  · exact leaf_rp h r
  · exact tup_rp h r
end
/-! ### in, items, len -/
section
variable {X : Cx}
def rInE (F : Fr) (f : Bool → Bool) : R2 := fun x y H Q => ∃ O p es kvs k, y = .ref p ∧ H p = some (dR F p es) ∧ RpKv F O H es kvs ∧ dKind kvs k = true ∧ Rs F O H H x k ∧ Q (.bl (f (lookE es k).isSome)) H
theorem op_inE (hu : X.A.units + 64 < cLine) : OpR X (compareOp .In) (rInE X.fr fun b => b) := by
  intro pins s σ H x y v u Q I rx ry ⟨O, p, es, kvs, k, e, hp, rk, hk, hx, q⟩
  subst e; cases ry
  exact e_in hu I hp rk hk hx rx fun s' I' => ⟨.bl _, H, I', rfl, q⟩
theorem op_notInE (hu : X.A.units + 64 < cLine) : OpR X (compareOp .NotIn) (rInE X.fr fun b => !b) := by
  intro pins s σ H x y v u Q I rx ry ⟨O, p, es, kvs, k, e, hp, rk, hk, hx, q⟩
  subst e; cases ry
  exact e_notIn hu I hp rk hk hx rx fun s' I' => ⟨.bl _, H, I', rfl, q⟩
theorem canLay_tup {ds : List D} (h : SeqAt.shaped (.tuple ds) = true) : PyData.canLayAll0 ds = true := by
  simp only [SeqAt.shaped, Bool.and_eq_true] at h
  simpa [PyData.canLay0] using h.1
theorem canLay_any {d : D} (h : SeqAt.shaped d = true) : d.canLay0 = true := by
  simp only [SeqAt.shaped, Bool.and_eq_true] at h
  exact h.1
theorem room_tup {d : D} {ds : List D} {A : Around} (h : SeqAt.shaped d = true) (hu : A.units + 65 < cLine) : A.units + 1 + min (PyData.depthAll ds) d.depth < cLine := by
  simp only [SeqAt.shaped, Bool.and_eq_true, decide_eq_true_eq] at h
  have := h.2
  omega
def rInTD (K : PySem.W.Frag) (f : Bool → Bool) : R2 := fun x y H Q => ∃ d ds, Dp K H x d ∧ Dp K H y (.tuple ds) ∧ SeqAt.shaped d = true ∧ SeqAt.shaped (.tuple ds) = true ∧ Q (.bl (f (ds.any fun z => PyData.eqv z d))) H
theorem op_inTD (hu : X.A.units + 65 < cLine) : OpR X (compareOp .In) (rInTD X.K fun b => b) := by
  intro pins s σ H x y v u Q I rx ry ⟨d, ds, hd, he, sd, se, q⟩
  obtain ⟨as, r1⟩ := Dp.reads I d x v hd rx
  obtain ⟨bs, r2⟩ := Dp.reads I (.tuple ds) y u he ry
  exact SeqAt.in_tuple_reads r2 r1 (canLay_tup se) (canLay_any sd) (room_tup sd hu) ⟨.bl _, H, I, rfl, q⟩
theorem op_notInTD (hu : X.A.units + 65 < cLine) : OpR X (compareOp .NotIn) (rInTD X.K fun b => !b) := by
  intro pins s σ H x y v u Q I rx ry ⟨d, ds, hd, he, sd, se, q⟩
  obtain ⟨as, r1⟩ := Dp.reads I d x v hd rx
  obtain ⟨bs, r2⟩ := Dp.reads I (.tuple ds) y u he ry
  exact SeqAt.notIn_tuple_reads r2 r1 (canLay_tup se) (canLay_any sd) (room_tup sd hu) ⟨.bl _, H, I, rfl, q⟩
def rIxE (F : Fr) : R2 := fun x y H Q => ∃ O p es kvs k v, x = .ref p ∧ H p = some (dR F p es) ∧ RpKv F O H es kvs ∧ dKind kvs k = true ∧ Rs F O H H y k ∧ lookE es k = some v ∧ Q v H
theorem ix_E (hu : X.A.units + 64 < cLine) : IxR X (rIxE X.fr) := by
  intro value slice pins s σ H x y v u Q I rx ry ⟨O, p, es, kvs, k, w, e, hp, rk, hk, hx, l, q⟩ hsub
  subst e; cases rx
  obtain ⟨hT, _, _⟩ := e_type I hp
  unfold subscriptTail
  refine wpAny_bind ?_
  rw [getitemInPython_of_ne hT.not_modules]
  refine wpAny_bind (wpAny_specialOf hT PySem.F.slot_dict_getitem.lookup ?_)
  have fin : wpAny (model X.prog X.w) X.A (subscripted slice false (.ref p) u >>= fun r => letTemporaryGo value (.ref p) r >>= fun _ => pure r) (EP X pins σ Q) X.xe s := by
    rw [hsub]
    exact wpAny_bind (wpAny_operating (e_getItem hu I hp rk hk hx ry l fun w' s' I' rw' => wpAny_bind (wpAny_letTemporaryGo (wpAny_pure ⟨_, H, I', rw', q⟩))))
  first
    | exact wpAny_pure fin
    | exact wpAny_bind (wpAny_pure fin)
    | exact fin
def rLenE (F : Fr) : List V → Hp → VK → Prop := fun xs H Q => ∃ p es, xs = [.ref p] ∧ H p = some (dR F p es) ∧ Q (.int es.length) H
theorem cr_lenE : CallR X (.builtin "len") (rLenE X.fr) := by
  intro pins s σ H xs us Q I r ⟨p, es, e, hp, q⟩
  subst e
  cases r with
  | cons rx rt =>
    cases rt
    cases rx
    exact e_len I hp fun t s' I' => ⟨.int _, H, I', ⟨t, rfl⟩, q⟩
end
end MV

set_option Elab.async false
set_option linter.all false
set_option maxRecDepth 100000
set_option maxHeartbeats 4000000
namespace MV
open PySem L2

theorem rd_upd {H : Hp} {p : Addr} {o : HO} : Rd (upd H p o) p o := .inl upd_same
section
variable {K : Fr} {O : List Addr} {H : Hp} {p : Addr} {xs : List V} {ds : List D}
theorem new_tup (ht : ∀ a ∈ O, H a ≠ none) (hp : H p = none) (h : RpAll K O H xs ds) : Rp K O (upd H p (.tup xs)) (.ref p) (.tuple ds) :=
  .tup ⟨fun z => ht p z hp, upd_same⟩ (h.same (same_upd hp))
theorem new_lst (ht : ∀ a ∈ O, H a ≠ none) (hp : H p = none) (h : RpAll K O H xs ds) : Rp K O (upd H p (.lst xs)) (.ref p) (.list ds) :=
  .lst ⟨fun z => ht p z hp, rd_upd⟩ (h.same (same_upd hp))
theorem new_own (hp : H p = none) (h : RpAll K O H xs ds) : OwnAt K (p :: O) (upd H p (.lst xs)) p (.list ds) :=
  ⟨xs, upd_same, (h.fresh hp).same (same_upd hp)⟩
end
theorem strOk_app {x y : Str} (hx : PyData.strOk x = true) (hy : PyData.strOk y = true) : PyData.strOk (x ++ y) = true := by
  have e : (x ++ y).cps = x.cps ++ y.cps := rfl
  unfold PyData.strOk at *
  rw [e]
  simp only [Array.all_append, hx, hy, Bool.and_self]

/-! ### shapes -/
theorem depthAll_le {n : Nat} : ∀ {ds : List D}, (∀ d ∈ ds, d.depth ≤ n) → PyData.depthAll ds ≤ n
  | [], _ => by simp [PyData.depthAll]
  | d :: ds, h => by
    have h1 := h d List.mem_cons_self
    have h2 := depthAll_le (ds := ds) fun e he => h e (List.mem_cons_of_mem _ he)
    simp only [PyData.depthAll]
    omega
theorem shp_depth : ∀ (n : Nat) (d : D), shp n d = true → d.depth ≤ n
  | _, .none, _ => by simp [PyData.depth]
  | _, .bool _, _ => by simp [PyData.depth]
  | _, .int _, _ => by simp [PyData.depth]
  | _, .str _, _ => by simp [PyData.depth]
  | n, .dict _, h => by cases n <;> simp [shp] at h
  | 0, .list _, h => by simp [shp] at h
  | 0, .tuple _, h => by simp [shp] at h
  | n + 1, .list ds, h => by
    simp only [shp, List.all_eq_true] at h
    have := depthAll_le (ds := ds) fun e he => shp_depth n e (h e he)
    simp only [PyData.depth]; omega
  | n + 1, .tuple ds, h => by
    simp only [shp, List.all_eq_true] at h
    have := depthAll_le (ds := ds) fun e he => shp_depth n e (h e he)
    simp only [PyData.depth]; omega
section
variable {K : Fr} {O : List Addr} {H : Hp}
mutual
theorem Rp.lay : ∀ (n : Nat) (d : D) (v : V), shp n d = true → Rp K O H v d → d.canLay0 = true
  | _, .none, _, _, _ => by simp [PyData.canLay0]
  | _, .bool b, _, _, _ => by simp [PyData.canLay0]
  | _, .int i, _, _, _ => by simp [PyData.canLay0]
  | _, .str x, _, _, h => by cases h with | str _ h => simpa [PyData.canLay0] using h
  | 0, .list ds, _, s, h => by simp [shp] at s
  | 0, .tuple ds, _, s, h => by simp [shp] at s
  | n + 1, .list ds, _, s, h => by cases h with | lst hs ha => simpa [PyData.canLay0] using RpAll.lay n ds _ (by simpa [shp] using s) ha
  | n + 1, .tuple ds, _, s, h => by cases h with | tup hs ha => simpa [PyData.canLay0] using RpAll.lay n ds _ (by simpa [shp] using s) ha
  | _, .dict _, _, s, h => by simp [shp] at s
theorem RpAll.lay : ∀ (n : Nat) (ds : List D) (vs : List V), (∀ d ∈ ds, shp n d = true) → RpAll K O H vs ds → PyData.canLayAll0 ds = true
  | _, [], _, _, _ => by simp [PyData.canLayAll0]
  | n, d :: ds, _, s, h => by cases h with | cons h1 h2 => simp [PyData.canLayAll0, Rp.lay n d _ (s d List.mem_cons_self) h1, RpAll.lay n ds _ (fun x hx => s x (List.mem_cons_of_mem _ hx)) h2]
end
theorem Rs.lay {v : V} {d : D} {n : Nat} (h : Rs K O H H v d) (s : shp n d = true) : d.canLay0 = true := by
  rcases h with h | ⟨p, rfl, h⟩
  · exact Rp.lay n d v s h
  · cases d <;> first | exact h.elim | skip
    · obtain ⟨xs, h1, h2⟩ := h
      cases n with
      | zero => simp [shp] at s
      | succ n => simpa [PyData.canLay0] using RpAll.lay n _ _ (by simpa [shp] using s) h2
    · simp [shp] at s
theorem shaped_of {v : V} {d : D} (h : Rs K O H H v d) (hs : shp 16 d = true) : SeqAt.shaped d = true := by
  have h1 := shp_depth 16 d hs
  show (d.canLay0 && decide (d.depth ≤ 64)) = true
  rw [h.lay hs, Bool.true_and]
  exact decide_eq_true (by omega)
end

/-! ### the operators over data -/
def okIf (c : Bool) (d : D) : R D := if c = true then .ok d else .stuck
theorem okIf_ok {c : Bool} {d e : D} (h : okIf c d = .ok e) : c = true ∧ d = e := by
  unfold okIf at h
  split at h
  · injection h with h; exact ⟨by assumption, h⟩
  · cases h
@[simp] theorem okIf_exc {c : Bool} {d : D} {n : Str} : (okIf c d = .exc n) = False := by
  unfold okIf; split <;> simp
def addD : D → D → R D
  | .int i, .int j => .ok (.int (i + j))
  | .str x, .str y => okIf (decide (x.length + y.length ≤ sizeLine)) (.str (x ++ y))
  | .list xs, .list ys => okIf (decide (xs.length + ys.length ≤ sizeLine)) (.list (xs ++ ys))
  | .tuple xs, .tuple ys => okIf (decide (xs.length + ys.length ≤ sizeLine)) (.tuple (xs ++ ys))
  | _, _ => .stuck
def subD : D → D → R D
  | .int i, .int j => .ok (.int (i - j))
  | _, _ => .stuck
def mulOk (i j : Int) : Bool := (decide (-(2 ^ 64) < i) && decide (i < 2 ^ 64)) || (decide (-(2 ^ 64) < j) && decide (j < 2 ^ 64)) || decide (i.natAbs.log2 + j.natAbs.log2 < 1000000)
def mulD : D → D → R D
  | .int i, .int j => okIf (mulOk i j) (.int (i * j))
  | _, _ => .stuck
def fdivD : D → D → R D
  | .int i, .int j => okIf ((decide (j ≠ 0) && decide (j.natAbs < 1073741824)) || (decide (0 < j) && decide (j.natAbs.log2 < 9000))) (.int (i.fdiv j))
  | _, _ => .stuck
def modD : D → D → R D
  | .int i, .int j => okIf (decide (j ≠ 0)) (.int (i.fmod j))
  | _, _ => .stuck
def powD : D → D → R D
  | .int i, .int j => okIf (decide (0 ≤ j) && decide (j ≤ 1000000) && decide (i.natAbs < 2 ^ 64)) (.int (i ^ j.toNat))
  | _, _ => .stuck
def eqD (d e : D) : R D := okIf (shp 16 d && shp 16 e) (.bool (PyData.eqv d e))
def neD (d e : D) : R D := okIf (shp 16 d && shp 16 e) (.bool (!PyData.eqv d e))
def ltD : D → D → R D
  | .int i, .int j => .ok (.bool (decide (i < j)))
  | .str x, .str y => .ok (.bool (decide (x.cps.toList < y.cps.toList)))
  | .tuple xs, .tuple ys => okIf (PySem.W.alike (.tuple xs) (.tuple ys) && (shp 16 (.tuple xs) && shp 16 (.tuple ys))) (.bool (PySem.W.dataLt (.tuple xs) (.tuple ys)))
  | _, _ => .stuck
def leD : D → D → R D
  | .int i, .int j => .ok (.bool (decide (i ≤ j)))
  | _, _ => .stuck
def gtD : D → D → R D
  | .int i, .int j => .ok (.bool (decide (j < i)))
  | _, _ => .stuck
def geD : D → D → R D
  | .int i, .int j => .ok (.bool (decide (j ≤ i)))
  | _, _ => .stuck
def isD : D → D → R D
  | .none, .none => .ok (.bool true)
  | _, .none => .ok (.bool false)
  | .bool a, .bool b => .ok (.bool (decide (a = b)))
  | _, _ => .stuck
def isNotD : D → D → R D
  | .none, .none => .ok (.bool false)
  | _, .none => .ok (.bool true)
  | .bool a, .bool b => .ok (.bool (!decide (a = b)))
  | _, _ => .stuck
def inStr (x z : Str) : Bool := match x.cps.toList with
  | [c] => decide (c ∈ z.cps.toList)
  | _ => !(Builtin.Str.occurrences z x 0 z.length 1).isEmpty
def inD : D → D → R D
  | .str x, .str z => .ok (.bool (inStr x z))
  | d, .list ds => okIf (shp 16 d && shp 16 (.list ds)) (.bool (ds.any fun z => PyData.eqv z d))
  | d, .tuple ds => okIf (shp 16 d && shp 16 (.tuple ds)) (.bool (ds.any fun z => PyData.eqv z d))
  | d, .dict kvs => okIf (dKind kvs d) (.bool (dGet kvs d).isSome)
  | _, _ => .stuck
def notInD : D → D → R D
  | .str x, .str z => .ok (.bool (!inStr x z))
  | d, .list ds => okIf (shp 16 d && shp 16 (.list ds)) (.bool (!ds.any fun z => PyData.eqv z d))
  | d, .tuple ds => okIf (shp 16 d && shp 16 (.tuple ds)) (.bool (!ds.any fun z => PyData.eqv z d))
  | d, .dict kvs => okIf (dKind kvs d) (.bool (!(dGet kvs d).isSome))
  | _, _ => .stuck
theorem nox_add : NoX addD := by intro x y n; cases x <;> cases y <;> simp [addD]
theorem nox_sub : NoX subD := by intro x y n; cases x <;> cases y <;> simp [subD]
theorem nox_mul : NoX mulD := by intro x y n; cases x <;> cases y <;> simp [mulD]
theorem nox_fdiv : NoX fdivD := by intro x y n; cases x <;> cases y <;> simp [fdivD]
theorem nox_mod : NoX modD := by intro x y n; cases x <;> cases y <;> simp [modD]
theorem nox_pow : NoX powD := by intro x y n; cases x <;> cases y <;> simp [powD]
theorem nox_eq : NoX eqD := by intro x y n; simp [eqD]
theorem nox_ne : NoX neD := by intro x y n; simp [neD]
theorem nox_lt : NoX ltD := by intro x y n; cases x <;> cases y <;> simp [ltD]
theorem nox_le : NoX leD := by intro x y n; cases x <;> cases y <;> simp [leD]
theorem nox_gt : NoX gtD := by intro x y n; cases x <;> cases y <;> simp [gtD]
theorem nox_ge : NoX geD := by intro x y n; cases x <;> cases y <;> simp [geD]
theorem nox_is : NoX isD := by intro x y n; cases x <;> cases y <;> simp [isD]
theorem nox_isNot : NoX isNotD := by intro x y n; cases x <;> cases y <;> simp [isNotD]
theorem nox_in : NoX inD := by intro x y n; cases x <;> cases y <;> simp [inD]
theorem nox_notIn : NoX notInD := by intro x y n; cases x <;> cases y <;> simp [notInD]

section
variable {X : Cx} {W : WX} {B Ω : List Nat} {k : Nat}
/-- list + list, whatever list it is -/
def rCatR : R2 := fun x y H Q => ∃ l b xs zs, x = .ref l ∧ y = .ref b ∧ Rd H l (.lst xs) ∧ Rd H b (.lst zs) ∧ xs.length + zs.length ≤ sizeLine ∧ ∀ p, H p = none → Q (.ref p) (upd H p (.lst (xs ++ zs)))
theorem op_catR : OpR X (binaryOp .Add) rCatR := by
  intro pins s σ H x y v u Q I rx ry h
  obtain ⟨l, b, xs, zs, rfl, rfl, hH, hB, hz, q⟩ := h
  cases rx
  cases ry
  obtain ⟨z, its, n, r, e⟩ := hH.ok I.hok
  obtain ⟨z2, its2, n2, r2, e2⟩ := hB.ok I.hok
  have hl := r.length
  have hl2 := r2.length
  refine PySem.P.add_list e e2 ?_ (by rw [List.size_toArray, List.size_toArray]; omega)
  have ea : its.toArray ++ its2.toArray = (its ++ its2).toArray := by simp
  rw [ea]
  exact ⟨.ref _, _, I.lnew (t' := s.toks) (r.append r2) (by rw [List.length_append]; omega), rfl, q _ I.fresh⟩
def rAdd (K : Fr) : R2 := fun x y H Q => (rI0 fun i j => .int (i + j)) x y H Q ∨ (∃ i j, x = .str i ∧ y = .str j ∧ i.length + j.length ≤ sizeLine ∧ Q (.str (i ++ j)) H) ∨ rCatR x y H Q ∨ rCatA K x y H Q
theorem or_add : OpR X (binaryOp .Add) (rAdd X.fr) := OpR.or op_add (OpR.or op_add_str (OpR.or op_catR op_catA))
theorem rb_add : RB X (rAdd X.fr) addD := by
  intro O H x y dx dy d Q ht hx hy e q
  cases dx <;> cases dy <;> simp only [addD] at e <;> try cases e
  · obtain rfl := hx.int; obtain rfl := hy.int
    exact .inl ⟨_, _, rfl, rfl, q _ H Same.refl (.int _)⟩
  · obtain ⟨rfl, h1⟩ := hx.str; obtain ⟨rfl, h2⟩ := hy.str
    obtain ⟨c, rfl⟩ := okIf_ok e
    exact .inr (.inl ⟨_, _, rfl, rfl, of_decide_eq_true c, q _ H Same.refl (.str _ (strOk_app h1 h2))⟩)
  · obtain ⟨p, xs, rfl, h1, h2⟩ := hx.lst
    obtain ⟨p', xs', rfl, h3, h4⟩ := hy.lst
    obtain ⟨c, rfl⟩ := okIf_ok e
    have c := of_decide_eq_true c
    rw [← h2.length, ← h4.length] at c
    exact .inr (.inr (.inl ⟨_, _, _, _, rfl, rfl, h1, h3, c, fun r hr => q _ _ (same_upd hr) (new_lst ht hr (h2.append h4))⟩))
  · obtain ⟨p, xs, rfl, h1, h2⟩ := hx.tup
    obtain ⟨p', xs', rfl, h3, h4⟩ := hy.tup
    obtain ⟨c, rfl⟩ := okIf_ok e
    have c := of_decide_eq_true c
    rw [← h2.length, ← h4.length] at c
    refine .inr (.inr (.inr ⟨_, _, _, _, rfl, rfl, sqT_of h1, sqT_of h3, c, fun z => q _ H Same.refl ?_, fun _ z => q _ H Same.refl ?_, fun _ _ r hr => q _ _ (same_upd hr) (new_tup ht hr (h2.append h4))⟩))
    · subst z
      cases h2
      exact .tup h3 h4
    · subst z
      cases h4
      rw [List.append_nil]
      exact .tup h1 h2
theorem rb_sub : RB X (rI0 fun i j => .int (i - j)) subD := by
  intro O H x y dx dy d Q ht hx hy e q
  cases dx <;> cases dy <;> simp only [subD] at e <;> try cases e
  obtain rfl := hx.int; obtain rfl := hy.int
  exact ⟨_, _, rfl, rfl, q _ H Same.refl (.int _)⟩
def rMulA : R2 := fun x y H Q => rI CMul (fun i j => .int (i * j)) x y H Q ∨ rI CMulW (fun i j => .int (i * j)) x y H Q
theorem or_mul : OpR X (binaryOp .Mult) rMulA := OpR.or op_mul op_mulW
theorem rb_mul : RB X rMulA mulD := by
  intro O H x y dx dy d Q ht hx hy e q
  cases dx <;> cases dy <;> simp only [mulD] at e <;> try cases e
  obtain rfl := hx.int; obtain rfl := hy.int
  obtain ⟨c, rfl⟩ := okIf_ok e
  simp only [mulOk, Bool.or_eq_true, Bool.and_eq_true, decide_eq_true_eq] at c
  rcases c with (c | c) | c
  · exact .inl ⟨_, _, rfl, rfl, .inl c, q _ H Same.refl (.int _)⟩
  · exact .inl ⟨_, _, rfl, rfl, .inr c, q _ H Same.refl (.int _)⟩
  · exact .inr ⟨_, _, rfl, rfl, c, q _ H Same.refl (.int _)⟩
def rFdivA : R2 := fun x y H Q => rI CDivN (fun i j => .int (i.fdiv j)) x y H Q ∨ rI CDivW (fun i j => .int (i / j)) x y H Q
theorem or_fdiv : OpR X (binaryOp .FloorDiv) rFdivA := OpR.or op_fdivN op_fdivW
theorem rb_fdiv : RB X rFdivA fdivD := by
  intro O H x y dx dy d Q ht hx hy e q
  cases dx <;> cases dy <;> simp only [fdivD] at e <;> try cases e
  obtain rfl := hx.int; obtain rfl := hy.int
  obtain ⟨c, rfl⟩ := okIf_ok e
  simp only [Bool.or_eq_true, Bool.and_eq_true, decide_eq_true_eq] at c
  rcases c with c | c
  · exact .inl ⟨_, _, rfl, rfl, c, q _ H Same.refl (.int _)⟩
  · refine .inr ⟨_, _, rfl, rfl, c, q _ H Same.refl ?_⟩
    rw [Int.fdiv_eq_ediv_of_nonneg _ (by omega)]
    exact .int _
theorem rb_mod : RB X (rI (fun _ j => j ≠ 0) fun i j => .int (i.fmod j)) modD := by
  intro O H x y dx dy d Q ht hx hy e q
  cases dx <;> cases dy <;> simp only [modD] at e <;> try cases e
  obtain rfl := hx.int; obtain rfl := hy.int
  obtain ⟨c, rfl⟩ := okIf_ok e
  exact ⟨_, _, rfl, rfl, of_decide_eq_true c, q _ H Same.refl (.int _)⟩
theorem rb_pow : RB X (rI CPow fun i j => .int (i ^ j.toNat)) powD := by
  intro O H x y dx dy d Q ht hx hy e q
  cases dx <;> cases dy <;> simp only [powD] at e <;> try cases e
  obtain rfl := hx.int; obtain rfl := hy.int
  obtain ⟨c, rfl⟩ := okIf_ok e
  simp only [Bool.and_eq_true, decide_eq_true_eq] at c
  exact ⟨_, _, rfl, rfl, ⟨c.1.1, c.1.2, c.2⟩, q _ H Same.refl (.int _)⟩
theorem rb_eq : RB X (rEqD X.fr) eqD := by
  intro O H x y dx dy d Q ht hx hy e q
  obtain ⟨c, rfl⟩ := okIf_ok e
  simp only [Bool.and_eq_true] at c
  exact ⟨_, _, hx.dp c.1, hy.dp c.2, shaped_of hx c.1, shaped_of hy c.2, q _ H Same.refl (.bl _)⟩
theorem rb_ne : RB X (rNeD X.fr) neD := by
  intro O H x y dx dy d Q ht hx hy e q
  obtain ⟨c, rfl⟩ := okIf_ok e
  simp only [Bool.and_eq_true] at c
  exact ⟨_, _, hx.dp c.1, hy.dp c.2, shaped_of hx c.1, shaped_of hy c.2, q _ H Same.refl (.bl _)⟩
def rLtD (K : Fr) : R2 := fun x y H Q => ∃ d e, Dp K H x d ∧ Dp K H y e ∧ PySem.W.alike d e = true ∧ d ≠ .none ∧ min d.depth e.depth ≤ 20 ∧ Q (.bl (PySem.W.dataLt d e)) H
theorem op_ltD (hu : X.A.units + 64 < cLine) : OpR X (compareOp .Lt) (rLtD X.fr) := by
  intro pins s σ H x y v u Q I rx ry h
  obtain ⟨d, e, hd, he, al, hn, hz, q⟩ := h
  obtain ⟨as, r1⟩ := Dp.reads I d x v hd rx
  obtain ⟨bs, r2⟩ := Dp.reads I e y u he ry
  exact PySem.W.rcLt_alike d e X.A s v u as bs r1 r2 al hn (by omega) _ _ _ _ ⟨.bl _, H, I, rfl, q⟩
def rLtA (K : Fr) : R2 := fun x y H Q => (rI0 fun i j => .bl (decide (i < j))) x y H Q ∨ ((∃ i j, x = .str i ∧ y = .str j ∧ Q (.bl (decide (i.cps.toList < j.cps.toList))) H) ∨ rLtD K x y H Q)
theorem or_lt (hu : X.A.units + 64 < cLine) : OpR X (compareOp .Lt) (rLtA X.fr) := OpR.or op_lt (OpR.or op_lt_str (op_ltD hu))
theorem rb_lt : RB X (rLtA X.fr) ltD := by
  intro O H x y dx dy d Q ht hx hy e q
  cases dx <;> cases dy <;> simp only [ltD] at e <;> try cases e
  · obtain rfl := hx.int; obtain rfl := hy.int
    exact .inl ⟨_, _, rfl, rfl, q _ H Same.refl (.bl _)⟩
  · obtain ⟨rfl, h1⟩ := hx.str; obtain ⟨rfl, h2⟩ := hy.str
    exact .inr (.inl ⟨_, _, rfl, rfl, q _ H Same.refl (.bl _)⟩)
  · obtain ⟨c, rfl⟩ := okIf_ok e
    simp only [Bool.and_eq_true] at c
    have hd := shp_depth 16 _ c.2.1
    exact .inr (.inr ⟨_, _, hx.dp c.2.1, hy.dp c.2.2, c.1, by simp, by omega, q _ H Same.refl (.bl _)⟩)
theorem rb_le : RB X (rI0 fun i j => .bl (decide (i ≤ j))) leD := by
  intro O H x y dx dy d Q ht hx hy e q
  cases dx <;> cases dy <;> simp only [leD] at e <;> try cases e
  obtain rfl := hx.int; obtain rfl := hy.int
  exact ⟨_, _, rfl, rfl, q _ H Same.refl (.bl _)⟩
theorem rb_gt : RB X (rI0 fun i j => .bl (decide (j < i))) gtD := by
  intro O H x y dx dy d Q ht hx hy e q
  cases dx <;> cases dy <;> simp only [gtD] at e <;> try cases e
  obtain rfl := hx.int; obtain rfl := hy.int
  exact ⟨_, _, rfl, rfl, q _ H Same.refl (.bl _)⟩
theorem rb_ge : RB X (rI0 fun i j => .bl (decide (j ≤ i))) geD := by
  intro O H x y dx dy d Q ht hx hy e q
  cases dx <;> cases dy <;> simp only [geD] at e <;> try cases e
  obtain rfl := hx.int; obtain rfl := hy.int
  exact ⟨_, _, rfl, rfl, q _ H Same.refl (.bl _)⟩
def rIsA : R2 := fun x y H Q => (y = .non ∧ Q (.bl (decide (x = .non))) H) ∨ (∃ a b, x = .bl a ∧ y = .bl b ∧ Q (.bl (decide (a = b))) H)
theorem or_is : OpR X (compareOp .Is) rIsA := OpR.or op_isN op_is_bl
theorem rs_non {K : Fr} {O : List Addr} {H : Hp} {v : V} {d : D} (h : Rs K O H H v d) : decide (v = .non) = (match d with | .none => true | _ => false) := by
  cases d with
  | none => obtain rfl := h.non; rfl
  | bool b => obtain rfl := h.bool; rfl
  | int i => obtain rfl := h.int; rfl
  | str x => obtain ⟨rfl, _⟩ := h.str; rfl
  | list ds => obtain ⟨_, _, rfl, _⟩ := h.lst; rfl
  | tuple ds => obtain ⟨_, _, rfl, _⟩ := h.tup; rfl
  | dict ds => obtain ⟨_, rfl⟩ := h.dictR; rfl
theorem rb_is : RB X rIsA isD := by
  intro O H x y dx dy d Q ht hx hy e q
  have hn := rs_non hx
  cases dy <;> (try (cases dx <;> simp only [isD] at e <;> cases e; done))
  · obtain rfl := hy.non
    refine .inl ⟨rfl, ?_⟩
    rw [hn]
    cases dx <;> simp only [isD] at e <;> (injection e with e; subst e; exact q _ H Same.refl (.bl _))
  · obtain rfl := hy.bool
    cases dx <;> simp only [isD] at e <;> try cases e
    obtain rfl := hx.bool
    exact .inr ⟨_, _, rfl, rfl, q _ H Same.refl (.bl _)⟩
def rNotA : R2 := fun x y H Q => (y = .non ∧ Q (.bl (!decide (x = .non))) H) ∨ (∃ a b, x = .bl a ∧ y = .bl b ∧ Q (.bl (!decide (a = b))) H)
theorem or_isNot : OpR X (compareOp .IsNot) rNotA := OpR.or op_notN op_isnot_bl
theorem rb_isNot : RB X rNotA isNotD := by
  intro O H x y dx dy d Q ht hx hy e q
  have hn := rs_non hx
  cases dy <;> (try (cases dx <;> simp only [isNotD] at e <;> cases e; done))
  · obtain rfl := hy.non
    refine .inl ⟨rfl, ?_⟩
    rw [hn]
    cases dx <;> simp only [isNotD] at e <;> (injection e with e; subst e; exact q _ H Same.refl (.bl _))
  · obtain rfl := hy.bool
    cases dx <;> simp only [isNotD] at e <;> try cases e
    obtain rfl := hx.bool
    exact .inr ⟨_, _, rfl, rfl, q _ H Same.refl (.bl _)⟩
def rInA (K : Fr) (f : Bool → Bool) : R2 := fun x y H Q => (∃ (c : Nat) (z : Str), x = .str ⟨#[c]⟩ ∧ y = .str z ∧ Q (.bl (f (decide (c ∈ z.cps.toList)))) H) ∨
  (∃ i j, x = .str i ∧ y = .str j ∧ Q (.bl (f (!(Builtin.Str.occurrences j i 0 j.length 1).isEmpty))) H) ∨
  (∃ d ds, Dp K H x d ∧ Dp K H y (.list ds) ∧ SeqAt.shaped d = true ∧ SeqAt.shaped (.list ds) = true ∧ Q (.bl (f (ds.any fun z => PyData.eqv z d))) H) ∨
  rInTD K f x y H Q ∨ rInE K f x y H Q
theorem or_in (g : Gd X W k) : OpR X (compareOp .In) (rInA X.fr fun b => b) := OpR.or op_in_sign (OpR.or op_in_str (OpR.or (op_inD g.u65) (OpR.or (op_inTD g.u65) (op_inE g.u64))))
theorem or_notIn (g : Gd X W k) : OpR X (compareOp .NotIn) (rInA X.fr fun b => !b) := OpR.or op_notIn_sign (OpR.or op_notin_str (OpR.or (op_notInD g.u65) (OpR.or (op_notInTD g.u65) (op_notInE g.u64))))
theorem in_str {K : Fr} {f : Bool → Bool} {H : Hp} {Q : VK} {x z : Str} (q : Q (.bl (f (inStr x z))) H) : rInA K f (.str x) (.str z) H Q := by
  unfold inStr at q
  split at q
  · rename_i c e
    refine .inl ⟨c, z, ?_, rfl, q⟩
    obtain ⟨a⟩ := x
    congr 1
    congr 1
    exact Array.ext' (by simpa using e)
  · exact .inr (.inl ⟨_, _, rfl, rfl, q⟩)
theorem rb_in : RB X (rInA X.fr fun b => b) inD := by
  intro O H x y dx dy d Q ht hx hy e q
  cases dy <;> (try (cases dx <;> simp only [inD] at e <;> cases e; done))
  · obtain ⟨rfl, h1⟩ := hy.str
    cases dx <;> simp only [inD] at e <;> try cases e
    obtain ⟨rfl, h2⟩ := hx.str
    exact in_str (f := fun b => b) (q _ H Same.refl (.bl _))
  · rename_i ds
    have e : okIf (shp 16 dx && shp 16 (.list ds)) (.bool (ds.any fun z => PyData.eqv z dx)) = .ok d := by cases dx <;> exact e
    obtain ⟨c, rfl⟩ := okIf_ok e
    simp only [Bool.and_eq_true] at c
    exact .inr (.inr (.inl ⟨_, _, hx.dp c.1, hy.dp c.2, shaped_of hx c.1, shaped_of hy c.2, q _ H Same.refl (.bl _)⟩))
  · rename_i ds
    have e : okIf (shp 16 dx && shp 16 (.tuple ds)) (.bool (ds.any fun z => PyData.eqv z dx)) = .ok d := by cases dx <;> exact e
    obtain ⟨c, rfl⟩ := okIf_ok e
    simp only [Bool.and_eq_true] at c
    exact .inr (.inr (.inr (.inl ⟨_, _, hx.dp c.1, hy.dp c.2, shaped_of hx c.1, shaped_of hy c.2, q _ H Same.refl (.bl _)⟩)))
  · rename_i kvs
    have e : okIf (dKind kvs dx) (.bool ((dGet kvs dx).isSome)) = .ok d := by cases dx <;> exact e
    obtain ⟨c, rfl⟩ := okIf_ok e
    obtain ⟨p, es, rfl, h1, h2⟩ := hy.dict (dk_noOb c)
    exact .inr (.inr (.inr (.inr ⟨O, p, es, kvs, dx, rfl, h1, h2, c, hx, by rw [look_some h2]; exact q _ H Same.refl (.bl _)⟩)))
theorem rb_notIn : RB X (rInA X.fr fun b => !b) notInD := by
  intro O H x y dx dy d Q ht hx hy e q
  cases dy <;> (try (cases dx <;> simp only [notInD] at e <;> cases e; done))
  · obtain ⟨rfl, h1⟩ := hy.str
    cases dx <;> simp only [notInD] at e <;> try cases e
    obtain ⟨rfl, h2⟩ := hx.str
    exact in_str (f := fun b => !b) (q _ H Same.refl (.bl _))
  · rename_i ds
    have e : okIf (shp 16 dx && shp 16 (.list ds)) (.bool (!ds.any fun z => PyData.eqv z dx)) = .ok d := by cases dx <;> exact e
    obtain ⟨c, rfl⟩ := okIf_ok e
    simp only [Bool.and_eq_true] at c
    exact .inr (.inr (.inl ⟨_, _, hx.dp c.1, hy.dp c.2, shaped_of hx c.1, shaped_of hy c.2, q _ H Same.refl (.bl _)⟩))
  · rename_i ds
    have e : okIf (shp 16 dx && shp 16 (.tuple ds)) (.bool (!ds.any fun z => PyData.eqv z dx)) = .ok d := by cases dx <;> exact e
    obtain ⟨c, rfl⟩ := okIf_ok e
    simp only [Bool.and_eq_true] at c
    exact .inr (.inr (.inr (.inl ⟨_, _, hx.dp c.1, hy.dp c.2, shaped_of hx c.1, shaped_of hy c.2, q _ H Same.refl (.bl _)⟩)))
  · rename_i kvs
    have e : okIf (dKind kvs dx) (.bool (!(dGet kvs dx).isSome)) = .ok d := by cases dx <;> exact e
    obtain ⟨c, rfl⟩ := okIf_ok e
    obtain ⟨p, es, rfl, h1, h2⟩ := hy.dict (dk_noOb c)
    exact .inr (.inr (.inr (.inr ⟨O, p, es, kvs, dx, rfl, h1, h2, c, hx, by rw [look_some h2]; exact q _ H Same.refl (.bl _)⟩)))
end
end MV

set_option Elab.async false
set_option linter.all false
set_option maxRecDepth 100000
set_option maxHeartbeats 4000000
namespace MV
open PySem L2

section
variable {X : Cx} {W : WX} {B Ω : List Nat} {k : Nat} {a b c e : Expr} {ga gb gc : Env → R D} {pos : Pos} {cop cop' : CmpOp} {r r' : R2} {f f' : D → D → R D}
/-! ### tests -/
def asB : D → R Bool
  | .bool b => .ok b
  | _ => .stuck
def xT (g : Env → R D) : Env → R Bool := fun ρ => (g ρ).bind asB
theorem tT_of {mg : Str → Option Value} {σ : St} {H : Hp} {K : Fr} {Q : Bool → Hp → Prop} {g : Env → R D} (h : tT K mg W B Ω (xT g) σ H Q) : tX K mg W B Ω g σ H fun x H' => ∃ c, x = .bl c ∧ Q c H' := by
  obtain ⟨H0, O0, O, ρ, S, h⟩ := h
  refine ⟨H0, O0, O, ρ, S, Good.bind (f := asB) h fun d v H1 e s1 r1 h1 => ?_⟩
  cases d <;> first | exact h1.elim | skip
  cases r1
  exact ⟨_, rfl, h1.use rfl⟩
theorem ptx_val (h : PX X W B Ω e ga) (he : ∀ whole, isTrue e X.env whole = (do let v ← whole; standAt e.pos; holding [v] (truthy v)) := by intro _; rfl) : PTx X W B Ω e (xT ga) :=
  PT.imp (pt_val h he) fun σ H Q q => tT_of q
theorem ptx_cmp (ho : OpR X (compareOp cop) r) (hm : behindInMarks cop b = false) (hn : NoX f) (hr : RB X r f) (ha : PB X W B Ω a ga) (hb : PB X W B Ω b gb) : PTx X W B Ω (.Compare a [cop] [b] pos) (xT (x2 f ga gb)) :=
  PT.imp (pt_cmpR ho ha hb hm) fun σ H Q q => pb_bin hn hr (tT_of q)
def x3 (f f' : D → D → R D) (ga gb gc : Env → R D) : Env → R D := fun ρ => (ga ρ).bind fun x => (gb ρ).bind fun y => (f x y).bind fun z => match z with
  | .bool true => (gc ρ).bind fun w => f' y w
  | .bool false => .ok (.bool false)
  | _ => .stuck
theorem px_tri (hn : NoX f) (hr : RB X r f) (hn' : NoX f') (hr' : RB X r' f') {σ : St} {H : Hp} {Q : VK} (h : tX X.fr X.mg W B Ω (x3 f f' ga gb gc) σ H Q) :
    tChain r r' (tB X.fr X.mg W B Ω ga) (tB X.fr X.mg W B Ω gb) (tB X.fr X.mg W B Ω gc) σ H Q := by
  obtain ⟨H0, O0, O, ρ, S, h⟩ := h
  refine ⟨H0, O0, O, ρ, S, Good.bind h fun x v H1 e1 s1 r1 h1 => ⟨H0, O0, O, ρ, S.same s1, Good.bind h1 fun y u H2 e2 s2 r2 h2 => ?_⟩⟩
  have r1' := r1.ge s2 (Ge.of_same s2)
  have S2 := (S.same s1).same s2
  cases ez : f x y with
  | stuck => rw [ez] at h2; exact h2.elim
  | exc n => exact absurd ez (hn x y n)
  | ok z =>
    rw [ez] at h2
    refine hr O H2 v u x y z _ S2.trk r1' r2 ez fun w H3 s3 rz => ?_
    cases z <;> first | exact h2.elim | skip
    rename_i bz
    cases rz
    refine ⟨bz, rfl, ?_⟩
    cases bz with
    | false => exact h2 _ H3 s3 (.bl false)
    | true =>
      simp only [if_true]
      refine ⟨H0, O0, O, ρ, S2.same s3, Good.bind (f := fun w => f' y w) (Good.mono s3 h2) fun w' w2 H4 e4 s4 r4 h4 => ?_⟩
      obtain ⟨z, e⟩ := h4.ok_of (hn' y w')
      rw [e] at h4
      exact hr' O H4 u w2 y w' z Q ((S2.same s3).same s4).trk ((r2.ge s3 (Ge.of_same s3)).ge s4 (Ge.of_same s4)) r4 e h4
theorem px_chain (ho : OpR X (compareOp cop) r) (ho' : OpR X (compareOp cop') r') (hn : NoX f) (hr : RB X r f) (hn' : NoX f') (hr' : RB X r' f') (ha : PB X W B Ω a ga) (hb : PB X W B Ω b gb) (hc : PB X W B Ω c gc)
    (hm : lastMarks [cop, cop'] [b, c] = false := by with_unfolding_all rfl) : PX X W B Ω (.Compare a [cop, cop'] [b, c] pos) (x3 f f' ga gb gc) := PE.imp (pe_chain ho ho' ha hb hc hm) fun σ H Q q => px_tri hn hr hn' hr' q
theorem ptx_chain (ho : OpR X (compareOp cop) r) (ho' : OpR X (compareOp cop') r') (hn : NoX f) (hr : RB X r f) (hn' : NoX f') (hr' : RB X r' f') (ha : PB X W B Ω a ga) (hb : PB X W B Ω b gb) (hc : PB X W B Ω c gc)
    (hm : lastMarks [cop, cop'] [b, c] = false := by with_unfolding_all rfl) : PTx X W B Ω (.Compare a [cop, cop'] [b, c] pos) (xT (x3 f f' ga gb gc)) := PT.imp (pt_chain ho ho' ha hb hc hm) fun σ H Q q => px_tri hn hr hn' hr' (tT_of q)
variable {ta tb : Env → R Bool} {rest : List Expr}
def bAnd (ta tb : Env → R Bool) : Env → R Bool := fun ρ => (ta ρ).bind fun c => if c = true then tb ρ else .ok false
def bOr (ta tb : Env → R Bool) : Env → R Bool := fun ρ => (ta ρ).bind fun c => if c = true then .ok true else tb ρ
def bNot (ta : Env → R Bool) : Env → R Bool := fun ρ => (ta ρ).bind fun c => .ok (!c)
theorem pwx_and1 (ha : PTx X W B Ω a ta) : PWx X W B Ω (.BoolOp .And [a] pos) ta := pw_and1 ha
theorem pwx_or1 (ha : PTx X W B Ω a ta) : PWx X W B Ω (.BoolOp .Or [a] pos) ta := pw_or1 ha
theorem pwx_and (ha : PTx X W B Ω a ta) (hb : PWx X W B Ω (.BoolOp .And (b :: rest) pos) tb) : PWx X W B Ω (.BoolOp .And (a :: b :: rest) pos) (bAnd ta tb) :=
  PW.imp (pw_and ha hb) fun σ H Q ⟨H0, O0, O, ρ, S, h⟩ => ⟨H0, O0, O, ρ, S, Good.bind h fun d v H1 e s1 r1 h1 => by
    have r1 : v = d := r1
    subst r1
    cases v with
    | true => exact ⟨H0, O0, O, ρ, S.same s1, h1⟩
    | false => exact h1.use rfl⟩
theorem pwx_or (ha : PTx X W B Ω a ta) (hb : PWx X W B Ω (.BoolOp .Or (b :: rest) pos) tb) : PWx X W B Ω (.BoolOp .Or (a :: b :: rest) pos) (bOr ta tb) :=
  PW.imp (pw_or ha hb) fun σ H Q ⟨H0, O0, O, ρ, S, h⟩ => ⟨H0, O0, O, ρ, S, Good.bind h fun d v H1 e s1 r1 h1 => by
    have r1 : v = d := r1
    subst r1
    cases v with
    | false => exact ⟨H0, O0, O, ρ, S.same s1, h1⟩
    | true => exact h1.use rfl⟩
theorem ptx_not (ha : PTx X W B Ω a ta) : PTx X W B Ω (.UnaryOp .Not a pos) (bNot ta) :=
  PT.imp (pt_not ha) fun σ H Q ⟨H0, O0, O, ρ, S, h⟩ => ⟨H0, O0, O, ρ, S, Good.bind h fun d v H1 e s1 r1 h1 => by
    have r1 : v = d := r1
    subst r1
    exact h1.use rfl⟩
theorem ptx_w (h : PWx X W B Ω a ta) : PTx X W B Ω a ta := PW.pt h
/-! ### and, or, not, if as values -/
def xAnd (ga gb : Env → R D) : Env → R D := fun ρ => (ga ρ).bind fun x => match x with
  | .bool true => gb ρ
  | .bool false => .ok (.bool false)
  | _ => .stuck
def xOr (ga gb : Env → R D) : Env → R D := fun ρ => (ga ρ).bind fun x => match x with
  | .bool true => .ok (.bool true)
  | .bool false => gb ρ
  | _ => .stuck
def notD : D → R D
  | .bool b => .ok (.bool (!b))
  | _ => .stuck
def xIf (ta : Env → R Bool) (ga gb : Env → R D) : Env → R D := fun ρ => (ta ρ).bind fun c => if c = true then ga ρ else gb ρ
theorem px_one {op} (h : PX X W B Ω a ga) : PX X W B Ω (.BoolOp op [a] pos) ga := pe_one h
theorem px_and (ha : PX X W B Ω a ga) (hb : PX X W B Ω (.BoolOp .And (b :: rest) pos) gb) : PX X W B Ω (.BoolOp .And (a :: b :: rest) pos) (xAnd ga gb) :=
  PE.imp (pe_and ha hb) fun σ H Q ⟨H0, O0, O, ρ, S, h⟩ => ⟨H0, O0, O, ρ, S, Good.bind h fun d v H1 e s1 r1 h1 => by
    cases d <;> first | exact h1.elim | skip
    rename_i z
    cases r1
    refine ⟨z, rfl, ?_⟩
    cases z with
    | true => exact ⟨H0, O0, O, ρ, S.same s1, h1⟩
    | false => exact h1.use (.bl _)⟩
theorem px_or (ha : PX X W B Ω a ga) (hb : PX X W B Ω (.BoolOp .Or (b :: rest) pos) gb) : PX X W B Ω (.BoolOp .Or (a :: b :: rest) pos) (xOr ga gb) :=
  PE.imp (pe_or ha hb) fun σ H Q ⟨H0, O0, O, ρ, S, h⟩ => ⟨H0, O0, O, ρ, S, Good.bind h fun d v H1 e s1 r1 h1 => by
    cases d <;> first | exact h1.elim | skip
    rename_i z
    cases r1
    refine ⟨z, rfl, ?_⟩
    cases z with
    | false => exact ⟨H0, O0, O, ρ, S.same s1, h1⟩
    | true => exact h1.use (.bl _)⟩
theorem px_not (ha : PX X W B Ω a ga) : PX X W B Ω (.UnaryOp .Not a pos) (x1 notD ga) :=
  PE.imp (pe_not ha) fun σ H Q ⟨H0, O0, O, ρ, S, h⟩ => ⟨H0, O0, O, ρ, S, Good.bind h fun d v H1 e s1 r1 h1 => by
    cases d <;> first | exact h1.elim | skip
    rename_i z
    cases r1
    exact ⟨z, rfl, h1.use (.bl _)⟩⟩
def negD : D → R D
  | .int i => .ok (.int (-i))
  | _ => .stuck
theorem px_neg (ha : PX X W B Ω a ga) : PX X W B Ω (.UnaryOp .USub a pos) (x1 negD ga) :=
  PE.imp (pe_un un_neg ha) fun σ H Q ⟨H0, O0, O, ρ, S, h⟩ => ⟨H0, O0, O, ρ, S, Good.bind h fun d v H1 e s1 r1 h1 => by
    cases d <;> first | exact h1.elim | skip
    cases r1
    exact ⟨_, rfl, h1.use (.int _)⟩⟩
theorem px_if (hc : PTx X W B Ω c ta) (ha : PX X W B Ω a ga) (hb : PX X W B Ω b gb) : PX X W B Ω (.IfExp c a b pos) (xIf ta ga gb) :=
  PE.imp (pe_ifExp hc ha hb) fun σ H Q ⟨H0, O0, O, ρ, S, h⟩ => ⟨H0, O0, O, ρ, S, Good.bind h fun d v H1 e s1 r1 h1 => by
    have r1 : v = d := r1
    subst r1
    cases v with
    | true => exact ⟨H0, O0, O, ρ, S.same s1, h1⟩
    | false => exact ⟨H0, O0, O, ρ, S.same s1, h1⟩⟩
theorem po_if (hc : PTx X W B Ω c ta) (ha : PO X W B Ω a ga) (hb : PO X W B Ω b gb) : PO X W B Ω (.IfExp c a b pos) (xIf ta ga gb) :=
  PE.imp (pe_ifExp hc ha hb) fun σ H Q ⟨H0, O0, O, ρ, S, h⟩ => ⟨H0, O0, O, ρ, S, Good.bind h fun d v H1 e s1 r1 h1 => by
    have r1 : v = d := r1
    subst r1
    have weak : ∀ {rr : R D}, Good X.mg W σ (RelO X.fr O H) H1 rr Q → Good X.mg W σ (RelO X.fr O H1) H1 rr Q := fun {rr} g => by
      cases rr with
      | ok d =>
        rintro v H' s (⟨ha, r⟩ | ⟨p, rfl, hp, w⟩)
        · exact g v H' s (.inl ⟨ha, r⟩)
        refine g _ H' s (.inr ⟨p, rfl, ?_, w⟩)
        cases q : H p with
        | none => rfl
        | some u => rw [s1 p u q] at hp; cases hp
      | exc n => exact g
      | stuck => exact g
    cases v with
    | true => exact ⟨H0, O0, O, ρ, S.same s1, weak h1⟩
    | false => exact ⟨H0, O0, O, ρ, S.same s1, weak h1⟩⟩

/-! ### items, slices -/
def ixD : D → D → R D
  | .list ds, .int i => match atI ds i with
    | some d => .ok d
    | none => .stuck
  | .tuple ds, .int i => match atI ds i with
    | some d => .ok d
    | none => .stuck
  | .str z, .int i => if z.length ≤ sizeLine then (match atI z.cps.toList i with
    | some c => .ok (.str ⟨#[c]⟩)
    | none => .stuck) else .stuck
  | .dict kvs, k => if dKind kvs k = true then (match dGet kvs k with
    | some d => .ok d
    | none => .stuck) else .stuck
  | _, _ => .stuck
theorem nox_ix : NoX ixD := by intro x y n; cases x <;> cases y <;> simp only [ixD] <;> (try split) <;> (try split) <;> simp
theorem atI_rp {K : Fr} {O : List Addr} {H : Hp} {xs : List V} {ds : List D} {i : Int} {d : D} (h : RpAll K O H xs ds) (e : atI ds i = some d) : ∃ v, atI xs i = some v ∧ Rp K O H v d := by
  unfold atI at *
  rw [h.length]
  cases q : ixN ds.length i with
  | none => rw [q] at e; cases e
  | some j => rw [q] at e; exact h.get e
def rIxA (K : Fr) : R2 := fun x y H Q => rIxL K x y H Q ∨ rIxT K x y H Q ∨ rIxS x y H Q ∨ rIxE K x y H Q
theorem or_ix (hu : X.A.units + 64 < cLine) : IxR X (rIxA X.fr) := IxR.or ix_list (IxR.or ix_tup (IxR.or ix_str (ix_E hu)))
theorem atI_mem {α : Type} {xs : List α} {i : Int} {v : α} (h : atI xs i = some v) : v ∈ xs := by
  unfold atI at h
  cases e : ixN xs.length i with
  | none => rw [e] at h; cases h
  | some j => rw [e] at h; exact List.mem_of_getElem? h
theorem strOk_iff {z : Str} : PyData.strOk z = true ↔ ∀ c ∈ z.cps.toList, c < 0x110000 := by
  unfold PyData.strOk
  rw [← Array.all_toList, List.all_eq_true]
  simp
theorem strOk_sub {z y : Str} (h : PyData.strOk z = true) (hs : ∀ c ∈ y.cps.toList, c ∈ z.cps.toList) : PyData.strOk y = true := strOk_iff.mpr fun c hc => strOk_iff.mp h c (hs c hc)
theorem rb_ix : RB X (rIxA X.fr) ixD := by
  intro O H x y dx dy d Q ht hx hy e q
  rcases Classical.em (∃ kvs, dx = .dict kvs) with ⟨kvs, rfl⟩ | nd
  · have e : (if dKind kvs dy = true then (match dGet kvs dy with | some d => R.ok d | none => .stuck) else .stuck) = .ok d := by cases dy <;> exact e
    split at e
    · rename_i c
      obtain ⟨p, es, rfl, h1, h2⟩ := hx.dict (dk_noOb c)
      rcases get_rel (k := dy) h2 with ⟨a, b⟩ | ⟨w, d', a, b, r⟩
      · rw [b] at e; cases e
      · rw [b] at e; cases e
        exact .inr (.inr (.inr ⟨O, p, es, kvs, dy, w, rfl, h1, h2, c, hy, a, q _ H Same.refl r⟩))
    · cases e
  cases dx <;> (try exact absurd ⟨_, rfl⟩ nd) <;> cases dy <;> simp only [ixD] at e <;> try cases e
  · obtain ⟨rfl, h1⟩ := hx.str; obtain rfl := hy.int
    split at e
    · rename_i hz
      split at e
      · rename_i c hc
        cases e
        exact .inr (.inr (.inl ⟨_, _, _, rfl, rfl, hz, hc, q _ H Same.refl (.str _ (strOk_sub h1 fun c' h' => (List.mem_singleton.mp (show c' ∈ [c] from h')) ▸ atI_mem hc))⟩))
      · cases e
    · cases e
  · obtain ⟨p, xs, rfl, h1, h2⟩ := hx.lst; obtain rfl := hy.int
    split at e
    · rename_i d' hd
      cases e
      obtain ⟨v, hv, rv⟩ := atI_rp h2 hd
      exact .inl ⟨_, _, _, _, rfl, rfl, .inl h1, hv, q _ H Same.refl rv⟩
    · cases e
  · obtain ⟨p, xs, rfl, h1, h2⟩ := hx.tup; obtain rfl := hy.int
    split at e
    · rename_i d' hd
      cases e
      obtain ⟨v, hv, rv⟩ := atI_rp h2 hd
      exact .inr (.inl ⟨_, _, _, _, rfl, rfl, sqT_of h1, hv, q _ H Same.refl rv⟩)
    · cases e
theorem px_ix (G : Gd X W k) (hs : PlainIx b) (ha : PB X W B Ω a ga) (hb : PB X W B Ω b gb) : PX X W B Ω (.Subscript a b pos) (x2 ixD ga gb) :=
  PE.imp (pe_ix (or_ix G.u64) ha hb hs) fun σ H Q h => pb_bin nox_ix rb_ix h
/-- a part of a slice -/
def xNoP : Env → R (Option Int) := fun _ => .ok none
def asI : D → R (Option Int)
  | .int i => .ok (some i)
  | _ => .stuck
def xP (g : Env → R D) : Env → R (Option Int) := fun ρ => (g ρ).bind asI
def tP (K : Fr) (mg : Str → Option Value) (W : WX) (B Ω : List Nat) (g : Env → R (Option Int)) : TO := fun σ H Q => ∃ H0 O0 O ρ, Stt K H0 O0 B Ω O H σ ρ ∧ Good mg W σ (fun _ (b c : Option Int) => b = c) H (g ρ) Q
def PPx (X : Cx) (W : WX) (B Ω : List Nat) (e : Option Expr) (g : Env → R (Option Int)) : Prop := L2.PO X e (tP X.fr X.mg W B Ω g)
theorem PO_imp {X : Cx} {e : Option Expr} {t t' : TO} (h : L2.PO X e t) (w : ∀ σ H Q, t' σ H Q → t σ H Q) : L2.PO X e t' := ⟨fun pins s σ H Q I q => h.run pins s σ H Q I (w σ H Q q)⟩
theorem pp_none : PPx X W B Ω none xNoP := PO_imp po_none fun σ H Q ⟨H0, O0, O, ρ, S, h⟩ => h.use rfl
theorem pp_some (h : PX X W B Ω e ga) : PPx X W B Ω (some e) (xP ga) := PO_imp (po_some h) fun σ H Q ⟨H0, O0, O, ρ, S, h⟩ => ⟨H0, O0, O, ρ, S, Good.bind h fun d v H1 e s1 r1 h1 => by
  cases d <;> first | exact h1.elim | skip
  cases r1
  exact ⟨_, rfl, h1.use rfl⟩⟩
def cutD (xs : List D) (lo hi : Option Int) : List D := (xs.drop (HT.sIx xs.length 0 lo)).take (HT.sIx xs.length xs.length hi - HT.sIx xs.length 0 lo)
def slD : D → Option Int → Option Int → R D
  | .list ds, lo, hi => .ok (.list (cutD ds lo hi))
  | .tuple ds, lo, hi => .ok (.tuple (cutD ds lo hi))
  | .str z, lo, hi => okIf (decide (z.length ≤ sizeLine)) (.str (cutS z lo hi))
  | _, _, _ => .stuck
def xSl (ga : Env → R D) (gl gh : Env → R (Option Int)) : Env → R D := fun ρ => (ga ρ).bind fun x => (gl ρ).bind fun l => (gh ρ).bind fun h => slD x l h
theorem cut_rp {K : Fr} {O : List Addr} {H : Hp} {xs : List V} {ds : List D} (lo hi : Option Int) (h : RpAll K O H xs ds) : RpAll K O H (cutV xs lo hi) (cutD ds lo hi) := by
  unfold cutV cutD
  rw [h.length]
  exact (h.drop _).take _
def rSlAll (K : Fr) : V → Option Int → Option Int → Hp → VK → Prop := fun x lo hi H Q => rSlL K x lo hi H Q ∨ rSlA K x lo hi H Q ∨ rSlS x lo hi H Q
theorem or_sl : SlR X (rSlAll X.fr) := SlR.or sl_list (SlR.or sl_tupA sl_str)
theorem cutS_mem {z : Str} {lo hi : Option Int} : ∀ c ∈ (cutS z lo hi).cps.toList, c ∈ z.cps.toList := fun c hc => by
  unfold cutS at hc
  simp only [List.toList_toArray] at hc
  exact List.mem_of_mem_drop (List.mem_of_mem_take hc)
variable {el eh : Option Expr} {gl gh : Env → R (Option Int)} {p2 : Pos}
theorem px_slice (ha : PB X W B Ω a ga) (hl : PPx X W B Ω el gl) (hh : PPx X W B Ω eh gh) : PX X W B Ω (.Subscript a (.Slice el eh none p2) pos) (xSl ga gl gh) :=
  PE.imp (pe_slice or_sl ha hl hh) fun σ H Q ⟨H0, O0, O, ρ, S, h⟩ => ⟨H0, O0, O, ρ, S, Good.bind h fun d v H1 e s1 r1 h1 => ⟨H0, O0, O, ρ, S.same s1, Good.bind h1 fun l l' H2 e2 s2 r2 h2 =>
    ⟨H0, O0, O, ρ, (S.same s1).same s2, Good.bind (f := fun z => slD d l z) h2 fun u u' H3 e3 s3 r3 h3 => by
    have r2 : l' = l := r2
    have r3 : u' = u := r3
    subst r2 r3
    have r1 := (r1.ge s2 (Ge.of_same s2)).ge s3 (Ge.of_same s3)
    have S3 := ((S.same s1).same s2).same s3
    cases d <;> first | exact h3.elim | skip
    · obtain ⟨rfl, h1⟩ := r1.str
      obtain ⟨z, ez⟩ := h3.ok_of fun n hn => by simp [slD] at hn
      rw [ez] at h3
      obtain ⟨hz, rfl⟩ := okIf_ok ez
      exact .inr (.inr ⟨_, rfl, of_decide_eq_true hz, h3.use (.str _ (strOk_sub h1 cutS_mem))⟩)
    · obtain ⟨p, xs, rfl, q1, q2⟩ := r1.lst
      exact .inl ⟨p, xs, rfl, .inl q1, fun p' hp' => h3 _ _ (same_upd hp') (new_lst S3.trk hp' (cut_rp _ _ q2))⟩
    · rename_i zs _
      obtain ⟨p, xs, rfl, q1, q2⟩ := r1.tup
      refine .inr (.inl ⟨p, xs, rfl, sqT_of q1, fun hw => h3.use (Rp.tup q1 ?_), fun _ p' hp' => h3 _ _ (same_upd hp') (new_tup S3.trk hp' (cut_rp _ _ q2))⟩)
      have e0 : cutD zs l' u' = zs := by
        unfold cutD
        rw [← q2.length, hw.1, hw.2, List.drop_zero, Nat.sub_zero, q2.length, List.take_length]
      rw [e0]
      exact q2⟩⟩⟩
/-- a slice of a list: a new one -/
def slL : D → Option Int → Option Int → R D
  | .list ds, lo, hi => .ok (.list (cutD ds lo hi))
  | _, _, _ => .stuck
def xSlL (ga : Env → R D) (gl gh : Env → R (Option Int)) : Env → R D := fun ρ => (ga ρ).bind fun x => (gl ρ).bind fun l => (gh ρ).bind fun h => slL x l h
theorem free_back {H H' : Hp} {p : Addr} (s : Same H H') (hp : H' p = none) : H p = none := by
  cases q : H p with
  | none => rfl
  | some u => rw [s p u q] at hp; cases hp
theorem po_slice (ha : PB X W B Ω a ga) (hl : PPx X W B Ω el gl) (hh : PPx X W B Ω eh gh) : PO X W B Ω (.Subscript a (.Slice el eh none p2) pos) (xSlL ga gl gh) :=
  PE.imp (pe_slice sl_list ha hl hh) fun σ H Q ⟨H0, O0, O, ρ, S, h⟩ => ⟨H0, O0, O, ρ, S, Good.bind h fun d v H1 e s1 r1 h1 => ⟨H0, O0, O, ρ, S.same s1, Good.bind h1 fun l l' H2 e2 s2 r2 h2 =>
    ⟨H0, O0, O, ρ, (S.same s1).same s2, Good.bind (f := fun z => slL d l z) h2 fun u u' H3 e3 s3 r3 h3 => by
    have r2 : l' = l := r2
    have r3 : u' = u := r3
    subst r2 r3
    have r1 := (r1.ge s2 (Ge.of_same s2)).ge s3 (Ge.of_same s3)
    cases d <;> first | exact h3.elim | skip
    obtain ⟨p, xs, rfl, q1, q2⟩ := r1.lst
    exact ⟨p, xs, rfl, .inl q1, fun p' hp' => h3 _ _ (same_upd hp') (.inr ⟨p', rfl, free_back (Same.tr (Same.tr s1 s2) s3) hp', new_own hp' (cut_rp _ _ q2)⟩)⟩⟩⟩⟩

/-! ### displays, arguments -/
def aNil : Env → R (List D) := fun _ => .ok []
def aCons (g : Env → R D) (gs : Env → R (List D)) : Env → R (List D) := fun ρ => (g ρ).bind fun d => (gs ρ).bind fun ds => .ok (d :: ds)
def RpK (K : Fr) (O : List Addr) (H : Hp) : List Bool → List V → List D → Prop
  | [], [], [] => True
  | b :: bs, v :: vs, d :: ds => (if b = true then Rs K O H H v d else Rp K O H v d) ∧ RpK K O H bs vs ds
  | _, _, _ => False
def tAk (K : Fr) (mg : Str → Option Value) (W : WX) (B Ω : List Nat) (ks : List Bool) (g : Env → R (List D)) : TA := fun σ H Q => ∃ H0 O0 O ρ, Stt K H0 O0 B Ω O H σ ρ ∧ Good mg W σ (fun H' => RpK K O H' ks) H (g ρ) Q
def tAf (K : Fr) (mg : Str → Option Value) (W : WX) (B Ω : List Nat) (g : Env → R (List D)) : TA := fun σ H Q => ∃ H0 O0 O ρ, Stt K H0 O0 B Ω O H σ ρ ∧ Good mg W σ (RpAll K O) H (g ρ) Q
def PAk (X : Cx) (W : WX) (B Ω : List Nat) (ks : List Bool) (es : List Expr) (g : Env → R (List D)) : Prop := PA X es (tAk X.fr X.mg W B Ω ks g)
def PAf (X : Cx) (W : WX) (B Ω : List Nat) (es : List Expr) (g : Env → R (List D)) : Prop := PA X es (tAf X.fr X.mg W B Ω g)
variable {es : List Expr} {gs : Env → R (List D)} {ks : List Bool}
theorem paf_nil : PAf X W B Ω [] aNil := PA.imp pa_nil fun σ H Q ⟨H0, O0, O, ρ, S, h⟩ => h.use .nil
theorem paf_cons (ha : PX X W B Ω a ga) (hr : PAf X W B Ω es gs) (hs : starEach (a :: es) X.env = (false, eval a X.env) :: starEach es X.env := by rfl) : PAf X W B Ω (a :: es) (aCons ga gs) :=
  PA.imp (pa_cons ha hr hs) fun σ H Q ⟨H0, O0, O, ρ, S, h⟩ => ⟨H0, O0, O, ρ, S, Good.bind h fun d v H1 e s1 r1 h1 => ⟨H0, O0, O, ρ, S.same s1, Good.bind (f := fun ds => .ok (d :: ds)) h1 fun ds vs H2 e2 s2 r2 h2 =>
    h2.use (.cons (r1.same s2) r2)⟩⟩
theorem pak_nil : PAk X W B Ω [] [] aNil := PA.imp pa_nil fun σ H Q ⟨H0, O0, O, ρ, S, h⟩ => h.use True.intro
theorem pak_f (ha : PX X W B Ω a ga) (hr : PAk X W B Ω ks es gs) (hs : starEach (a :: es) X.env = (false, eval a X.env) :: starEach es X.env := by rfl) : PAk X W B Ω (false :: ks) (a :: es) (aCons ga gs) :=
  PA.imp (pa_cons ha hr hs) fun σ H Q ⟨H0, O0, O, ρ, S, h⟩ => ⟨H0, O0, O, ρ, S, Good.bind h fun d v H1 e s1 r1 h1 => ⟨H0, O0, O, ρ, S.same s1, Good.bind (f := fun ds => .ok (d :: ds)) h1 fun ds vs H2 e2 s2 r2 h2 =>
    h2.use ⟨by simpa using r1.same s2, r2⟩⟩⟩
theorem pak_b (ha : PB X W B Ω a ga) (hr : PAk X W B Ω ks es gs) (hs : starEach (a :: es) X.env = (false, eval a X.env) :: starEach es X.env := by rfl) : PAk X W B Ω (true :: ks) (a :: es) (aCons ga gs) :=
  PA.imp (pa_cons ha hr hs) fun σ H Q ⟨H0, O0, O, ρ, S, h⟩ => ⟨H0, O0, O, ρ, S, Good.bind h fun d v H1 e s1 r1 h1 => ⟨H0, O0, O, ρ, S.same s1, Good.bind (f := fun ds => .ok (d :: ds)) h1 fun ds vs H2 e2 s2 r2 h2 =>
    h2.use ⟨by simpa using r1.ge s2 (Ge.of_same s2), r2⟩⟩⟩
def mkTup (ds : List D) : R D := if ds.length ≤ sizeLine then .ok (.tuple ds) else .stuck
def mkLst (ds : List D) : R D := if ds.length ≤ sizeLine then .ok (.list ds) else .stuck
def xTup (gs : Env → R (List D)) : Env → R D := fun ρ => (gs ρ).bind mkTup
def xLst (gs : Env → R (List D)) : Env → R D := fun ρ => (gs ρ).bind mkLst
theorem px_tup {x1} (h : PAf X W B Ω es gs) : PX X W B Ω (.Tuple es x1 pos) (xTup gs) :=
  PE.imp (pe_tup h) fun σ H Q ⟨H0, O0, O, ρ, S, h⟩ => ⟨H0, O0, O, ρ, S, Good.bind (f := mkTup) h fun ds vs H1 e s1 r1 h1 => by
    unfold mkTup at h1
    split at h1
    · rename_i hz
      exact ⟨by rw [r1.length]; exact hz, fun p hp => h1 _ _ (same_upd hp) (new_tup (S.same s1).trk hp r1)⟩
    · exact h1.elim⟩
theorem po_lst (h : PAf X W B Ω es gs) : PO X W B Ω (.List es pos) (xLst gs) :=
  PE.imp (pe_lst h) fun σ H Q ⟨H0, O0, O, ρ, S, h⟩ => ⟨H0, O0, O, ρ, S, Good.bind (f := mkLst) h fun ds vs H1 e s1 r1 h1 => by
    unfold mkLst at h1
    split at h1
    · rename_i hz
      exact ⟨by rw [r1.length]; exact hz, fun p hp => h1 _ _ (same_upd hp) (.inr ⟨p, rfl, free_back s1 hp, new_own hp r1⟩)⟩
    · exact h1.elim⟩
end
end MV

set_option Elab.async false
set_option linter.all false
set_option maxRecDepth 100000
set_option maxHeartbeats 4000000
namespace MV
open PySem L2

section
variable {X : Cx} {W : WX} {B Ω : List Nat} {k : Nat} {a b c e : Expr} {es : List Expr} {ga gb gc : Env → R D} {gs : Env → R (List D)} {ks : List Bool} {pos p : Pos} {nm : Str}
/-! ### built-ins -/
def xCall (f : List D → R D) (gs : Env → R (List D)) : Env → R D := fun ρ => (gs ρ).bind f
def NoXl (f : List D → R D) : Prop := ∀ ds n, f ds ≠ .exc n
def RCB (X : Cx) (r : List V → Hp → VK → Prop) (f : List D → R D) (ks : List Bool) : Prop := ∀ (O : List Addr) (H : Hp) (vs : List V) (ds : List D) (d : D) (Q : VK), (∀ a ∈ O, H a ≠ none) → RpK X.fr O H ks vs ds → f ds = .ok d → (∀ v H', Same H H' → Rp X.fr O H' v d → Q v H') → r vs H Q
def RCO (X : Cx) (r : List V → Hp → VK → Prop) (f : List D → R D) (ks : List Bool) : Prop := ∀ (O : List Addr) (H : Hp) (vs : List V) (ds : List D) (d : D) (Q : VK), (∀ a ∈ O, H a ≠ none) → RpK X.fr O H ks vs ds → f ds = .ok d → (∀ v H', Same H H' → RelO X.fr O H H' v d → Q v H') → r vs H Q
theorem rel_back {K : Fr} {O : List Addr} {H H1 H' : Hp} {v : V} {d : D} (s : Same H H1) (h : RelO K O H1 H' v d) : RelO K O H H' v d := h.imp id fun ⟨p, e, hp, w⟩ => ⟨p, e, free_back s hp, w⟩
theorem call_x {r : List V → Hp → VK → Prop} {f : List D → R D} (hn : NoXl f) (hr : RCB X r f ks) {σ : St} {H : Hp} {Q : VK} (h : tX X.fr X.mg W B Ω (xCall f gs) σ H Q) : tCB r (tAk X.fr X.mg W B Ω ks gs) σ H Q := by
  obtain ⟨H0, O0, O, ρ, S, h⟩ := h
  refine ⟨H0, O0, O, ρ, S, Good.bind (f := f) h fun ds vs H1 e s1 r1 h1 => ?_⟩
  cases q : f ds with
  | ok d => rw [q] at h1; exact hr O H1 vs ds d Q (S.same s1).trk r1 q h1
  | exc n => exact absurd q (hn ds n)
  | stuck => rw [q] at h1; exact h1.elim
theorem call_o {r : List V → Hp → VK → Prop} {f : List D → R D} (hn : NoXl f) (hr : RCO X r f ks) {σ : St} {H : Hp} {Q : VK} (h : tO X.fr X.mg W B Ω (xCall f gs) σ H Q) : tCB r (tAk X.fr X.mg W B Ω ks gs) σ H Q := by
  obtain ⟨H0, O0, O, ρ, S, h⟩ := h
  refine ⟨H0, O0, O, ρ, S, Good.bind (f := f) h fun ds vs H1 e s1 r1 h1 => ?_⟩
  cases q : f ds with
  | ok d => rw [q] at h1; exact hr O H1 vs ds d Q (S.same s1).trk r1 q fun v H' s rr => h1 v H' s (rel_back s1 rr)
  | exc n => exact absurd q (hn ds n)
  | stuck => rw [q] at h1; exact h1.elim
theorem px_bi {id : String} {r : List V → Hp → VK → Prop} {f : List D → R D} (hc : CallR X (.builtin id) r) (hn : NoXl f) (hr : RCB X r f ks) (hg : Gl X nm) (hm : X.mg nm = none) (hv : bootBuiltins nm = some (.builtin id)) (ha : PAk X W B Ω ks (e :: es) gs) (hnn : nm ≠ "__name__" := by decide) (hdb : (nm == ("__debug__" : Str)) = false := by decide)
    (he : starEach (e :: es) X.env = (false, eval e X.env) :: starEach es X.env := by rfl) (hpl : (backTo pos (starEach es X.env)).any (·.1) = false := by rfl) : PX X W B Ω (.Call (.Name nm p) (e :: es) [] pos) (xCall f gs) :=
  PE.imp (pe_callB hc hg hm hv ha hnn hdb he hpl) fun σ H Q h => call_x hn hr h
theorem po_bi {id : String} {r : List V → Hp → VK → Prop} {f : List D → R D} (hc : CallR X (.builtin id) r) (hn : NoXl f) (hr : RCO X r f ks) (hg : Gl X nm) (hm : X.mg nm = none) (hv : bootBuiltins nm = some (.builtin id)) (ha : PAk X W B Ω ks (e :: es) gs) (hnn : nm ≠ "__name__" := by decide) (hdb : (nm == ("__debug__" : Str)) = false := by decide)
    (he : starEach (e :: es) X.env = (false, eval e X.env) :: starEach es X.env := by rfl) (hpl : (backTo pos (starEach es X.env)).any (·.1) = false := by rfl) : PO X W B Ω (.Call (.Name nm p) (e :: es) [] pos) (xCall f gs) :=
  PE.imp (pe_callB hc hg hm hv ha hnn hdb he hpl) fun σ H Q h => call_o hn hr h
theorem px_ty {T : String} {r : List V → Hp → VK → Prop} {f : List D → R D} (hc : CallR X (.type T) r) (hn : NoXl f) (hr : RCB X r f ks) (hg : Gl X nm) (hm : X.mg nm = none) (hv : bootBuiltins nm = some (.type T)) (ha : PAk X W B Ω ks (e :: es) gs) (hnn : nm ≠ "__name__" := by decide) (hdb : (nm == ("__debug__" : Str)) = false := by decide)
    (he : starEach (e :: es) X.env = (false, eval e X.env) :: starEach es X.env := by rfl) (hpl : (backTo pos (starEach es X.env)).any (·.1) = false := by rfl) : PX X W B Ω (.Call (.Name nm p) (e :: es) [] pos) (xCall f gs) :=
  PE.imp (pe_callTy hc hg hm hv ha hnn hdb he hpl) fun σ H Q h => call_x hn hr h
theorem po_ty {T : String} {r : List V → Hp → VK → Prop} {f : List D → R D} (hc : CallR X (.type T) r) (hn : NoXl f) (hr : RCO X r f ks) (hg : Gl X nm) (hm : X.mg nm = none) (hv : bootBuiltins nm = some (.type T)) (ha : PAk X W B Ω ks (e :: es) gs) (hnn : nm ≠ "__name__" := by decide) (hdb : (nm == ("__debug__" : Str)) = false := by decide)
    (he : starEach (e :: es) X.env = (false, eval e X.env) :: starEach es X.env := by rfl) (hpl : (backTo pos (starEach es X.env)).any (·.1) = false := by rfl) : PO X W B Ω (.Call (.Name nm p) (e :: es) [] pos) (xCall f gs) :=
  PE.imp (pe_callTy hc hg hm hv ha hnn hdb he hpl) fun σ H Q h => call_o hn hr h

/-- one borrowed argument -/
theorem rpk1 {K : Fr} {O : List Addr} {H : Hp} {vs : List V} {ds : List D} (h : RpK K O H [true] vs ds) : ∃ v d, vs = [v] ∧ ds = [d] ∧ Rs K O H H v d := by
  match vs, ds, h with
  | [v], [d], h => exact ⟨v, d, rfl, rfl, by simpa using h.1⟩
  | [], [], h => exact h.elim
  | v :: w :: vs, [d], h => exact h.2.elim
  | [v], d :: e :: ds, h => exact h.2.elim
  | v :: w :: vs, d :: e :: ds, h => exact h.2.elim
  | [], d :: ds, h => exact h.elim
  | v :: vs, [], h => exact h.elim
theorem rpk2 {K : Fr} {O : List Addr} {H : Hp} {vs : List V} {ds : List D} (h : RpK K O H [true, true] vs ds) : ∃ v w d e, vs = [v, w] ∧ ds = [d, e] ∧ Rs K O H H v d ∧ Rs K O H H w e := by
  match vs, ds, h with
  | [v, w], [d, e], h => exact ⟨v, w, d, e, rfl, rfl, by simpa using h.1, by simpa using h.2.1⟩
  | [], _, h => exact h.elim
  | [v], [], h => exact h.elim
  | [v], [d], h => exact h.2.elim
  | [v], d :: e :: ds, h => exact h.2.elim
  | v :: w :: vs, [], h => exact h.elim
  | v :: w :: vs, [d], h => exact h.2.elim
  | [v, w], d :: e :: f :: ds, h => exact h.2.2.elim
  | v :: w :: u :: vs, [d, e], h => exact h.2.2.elim
  | v :: w :: u :: vs, d :: e :: f :: ds, h => exact h.2.2.elim
def lenF : List D → R D
  | [.list ds] => .ok (.int ds.length)
  | [.tuple ds] => .ok (.int ds.length)
  | [.str z] => okIf (decide (z.length ≤ sizeLine)) (.int z.length)
  | [.dict kvs] => okIf (!isOb kvs) (.int kvs.length)
  | _ => .stuck
def intsOf : List D → Option (List Int)
  | [] => some []
  | .int i :: ds => (intsOf ds).map (i :: ·)
  | _ :: _ => none
def boolsOf : List D → Option (List Bool)
  | [] => some []
  | .bool i :: ds => (boolsOf ds).map (i :: ·)
  | _ :: _ => none
@[simp] theorem intsOf_map (ns : List Int) : intsOf (ns.map .int) = some ns := by
  induction ns with
  | nil => rfl
  | cons n ns ih => simp [intsOf, ih]
@[simp] theorem boolsOf_map (ns : List Bool) : boolsOf (ns.map .bool) = some ns := by
  induction ns with
  | nil => rfl
  | cons n ns ih => simp [boolsOf, ih]
theorem intsOf_eq : ∀ {ds : List D} {ns : List Int}, intsOf ds = some ns → ds = ns.map .int
  | [], ns, h => by simp [intsOf] at h; subst h; rfl
  | d :: ds, ns, h => by
    cases d <;> simp only [intsOf] at h <;> try cases h
    obtain ⟨ms, e, rfl⟩ := Option.map_eq_some_iff.mp h
    rw [intsOf_eq e]; rfl
theorem boolsOf_eq : ∀ {ds : List D} {ns : List Bool}, boolsOf ds = some ns → ds = ns.map .bool
  | [], ns, h => by simp [boolsOf] at h; subst h; rfl
  | d :: ds, ns, h => by
    cases d <;> simp only [boolsOf] at h <;> try cases h
    obtain ⟨ms, e, rfl⟩ := Option.map_eq_some_iff.mp h
    rw [boolsOf_eq e]; rfl
theorem rp_ints {K : Fr} {O : List Addr} {H : Hp} : ∀ {ns : List Int} {vs : List V}, RpAll K O H vs (ns.map .int) → vs = ns.map .int
  | [], vs, h => by cases h; rfl
  | n :: ns, vs, h => by
    cases h with
    | cons h1 h2 => cases h1; rw [rp_ints h2]; rfl
theorem rp_bools {K : Fr} {O : List Addr} {H : Hp} : ∀ {ns : List Bool} {vs : List V}, RpAll K O H vs (ns.map .bool) → vs = ns.map .bl
  | [], vs, h => by cases h; rfl
  | n :: ns, vs, h => by
    cases h with
    | cons h1 h2 => cases h1; rw [rp_bools h2]; rfl
theorem ints_rp {K : Fr} {O : List Addr} {H : Hp} : ∀ (ns : List Int), RpAll K O H (ns.map .int) (ns.map .int)
  | [] => .nil
  | n :: ns => .cons (.int n) (ints_rp ns)
def sumF : List D → R D
  | [.list ds] => match intsOf ds with
    | some ns => .ok (.int ns.sum)
    | none => .stuck
  | _ => .stuck
def minF : List D → R D
  | [.list ds] => match intsOf ds with
    | some (n :: ns) => .ok (.int (ns.foldl min n))
    | _ => .stuck
  | [.int i, .int j] => .ok (.int (min i j))
  | _ => .stuck
def maxF : List D → R D
  | [.list ds] => match intsOf ds with
    | some (n :: ns) => .ok (.int (ns.foldl max n))
    | _ => .stuck
  | [.int i, .int j] => .ok (.int (max i j))
  | _ => .stuck
def absF : List D → R D
  | [.int i] => .ok (.int (if i < 0 then -i else i))
  | _ => .stuck
def allF : List D → R D
  | [.list ds] => match boolsOf ds with
    | some bs => .ok (.bool (bs.all id))
    | none => .stuck
  | _ => .stuck
def anyF : List D → R D
  | [.list ds] => match boolsOf ds with
    | some bs => .ok (.bool (bs.any id))
    | none => .stuck
  | _ => .stuck
def tupF : List D → R D
  | [.list ds] => .ok (.tuple ds)
  | [.tuple ds] => .ok (.tuple ds)
  | _ => .stuck
def lstF : List D → R D
  | [.list ds] => .ok (.list ds)
  | [.tuple ds] => .ok (.list ds)
  | _ => .stuck
def intF : List D → R D
  | [.int i] => .ok (.int i)
  | [.bool b] => .ok (.int (if b = true then 1 else 0))
  | _ => .stuck
def strF : List D → R D
  | [.int i] => okIf (decide (i.natAbs.log2 < 1920)) (.str (toString i))
  | [.str z] => .ok (.str z)
  | _ => .stuck
def srtI (ns : List Int) : List Int := ns.mergeSort (fun a b => decide (a ≤ b))
def sortedF : List D → R D
  | [.list ds] => match intsOf ds with
    | some ns => .ok (.list ((srtI ns).map .int))
    | none => .stuck
  | _ => .stuck
theorem nox_len : NoXl lenF := by intro ds n; unfold lenF; split <;> simp
theorem nox_sum : NoXl sumF := by intro ds n; unfold sumF; split <;> (try split) <;> simp
theorem nox_min : NoXl minF := by intro ds n; unfold minF; split <;> (try split) <;> simp
theorem nox_max : NoXl maxF := by intro ds n; unfold maxF; split <;> (try split) <;> simp
theorem nox_abs : NoXl absF := by intro ds n; unfold absF; split <;> simp
theorem nox_all : NoXl allF := by intro ds n; unfold allF; split <;> (try split) <;> simp
theorem nox_any : NoXl anyF := by intro ds n; unfold anyF; split <;> (try split) <;> simp
theorem nox_tup : NoXl tupF := by intro ds n; unfold tupF; split <;> simp
theorem nox_lst : NoXl lstF := by intro ds n; unfold lstF; split <;> simp
theorem nox_int : NoXl intF := by intro ds n; unfold intF; split <;> simp
theorem nox_str : NoXl strF := by intro ds n; unfold strF; split <;> simp
theorem nox_sorted : NoXl sortedF := by intro ds n; unfold sortedF; split <;> (try split) <;> simp
def rLenA (K : Fr) : List V → Hp → VK → Prop := fun xs H Q => (∃ p ys, xs = [.ref p] ∧ (SqL K H p ys ∨ SqT K H p ys) ∧ Q (.int ys.length) H) ∨ (∃ z, xs = [.str z] ∧ z.length ≤ sizeLine ∧ Q (.int z.length) H) ∨ rLenE K xs H Q
theorem cr_lenA : CallR X (.builtin "len") (rLenA X.fr) := CallR.or call_len_seq (CallR.or call_len_str cr_lenE)
theorem rc_len : RCB X (rLenA X.fr) lenF [true] := by
  intro O H vs ds d Q ht h e q
  obtain ⟨v, d', rfl, rfl, r⟩ := rpk1 h
  cases d' <;> simp only [lenF] at e <;> try cases e
  · obtain ⟨rfl, h1⟩ := r.str
    obtain ⟨c, rfl⟩ := okIf_ok e
    exact .inr (.inl ⟨_, rfl, of_decide_eq_true c, q _ H Same.refl (.int _)⟩)
  · obtain ⟨p, xs, rfl, h1, h2⟩ := r.lst
    exact .inl ⟨p, xs, rfl, .inl (.inl h1), by rw [h2.length]; exact q _ H Same.refl (.int _)⟩
  · obtain ⟨p, xs, rfl, h1, h2⟩ := r.tup
    exact .inl ⟨p, xs, rfl, .inr (.inl (.inl h1.2)), by rw [h2.length]; exact q _ H Same.refl (.int _)⟩
  · obtain ⟨c, rfl⟩ := okIf_ok e
    obtain ⟨p, es, rfl, h1, h2⟩ := r.dict (by simpa using c)
    exact .inr (.inr ⟨p, es, rfl, h1, by rw [rpkv_len h2]; exact q _ H Same.refl (.int _)⟩)
theorem rc_sum : RCB X (rSum X.fr) sumF [true] := by
  intro O H vs ds d Q ht h e q
  obtain ⟨v, d', rfl, rfl, r⟩ := rpk1 h
  cases d' <;> simp only [sumF] at e <;> try cases e
  split at e
  · rename_i ns hns
    cases e
    obtain rfl := intsOf_eq hns
    obtain ⟨p, xs, rfl, h1, h2⟩ := r.lst
    obtain rfl := rp_ints h2
    exact ⟨p, ns, rfl, .inl h1, q _ H Same.refl (.int _)⟩
  · cases e
theorem foldl_min_mem : ∀ (ns : List Int) (n : Int), ns.foldl min n ∈ n :: ns
  | [], n => by simp
  | m :: ns, n => by
    rw [List.foldl_cons]
    have h := foldl_min_mem ns (min n m)
    rcases List.mem_cons.mp h with h | h
    · rw [h]
      rcases Int.min_def n m ▸ (by split <;> simp : (if n ≤ m then n else m) = n ∨ (if n ≤ m then n else m) = m) with z | z <;> simp [z]
    · exact List.mem_cons_of_mem _ (List.mem_cons_of_mem _ h)
theorem foldl_min_le : ∀ (ns : List Int) (n : Int), ns.foldl min n ≤ n ∧ ∀ m ∈ ns, ns.foldl min n ≤ m
  | [], n => by simp
  | m :: ns, n => by
    rw [List.foldl_cons]
    obtain ⟨h1, h2⟩ := foldl_min_le ns (min n m)
    refine ⟨by omega, fun k hk => ?_⟩
    rcases List.mem_cons.mp hk with rfl | hk
    · omega
    · exact h2 k hk
theorem foldl_max_mem : ∀ (ns : List Int) (n : Int), ns.foldl max n ∈ n :: ns
  | [], n => by simp
  | m :: ns, n => by
    rw [List.foldl_cons]
    have h := foldl_max_mem ns (max n m)
    rcases List.mem_cons.mp h with h | h
    · rw [h]
      rcases Int.max_def n m ▸ (by split <;> simp : (if n ≤ m then m else n) = n ∨ (if n ≤ m then m else n) = m) with z | z <;> simp [z]
    · exact List.mem_cons_of_mem _ (List.mem_cons_of_mem _ h)
theorem foldl_max_ge : ∀ (ns : List Int) (n : Int), n ≤ ns.foldl max n ∧ ∀ m ∈ ns, m ≤ ns.foldl max n
  | [], n => by simp
  | m :: ns, n => by
    rw [List.foldl_cons]
    obtain ⟨h1, h2⟩ := foldl_max_ge ns (max n m)
    refine ⟨by omega, fun k hk => ?_⟩
    rcases List.mem_cons.mp hk with rfl | hk
    · omega
    · exact h2 k hk
def rMinA (K : Fr) : List V → Hp → VK → Prop := fun xs H Q => rMin K xs H Q ∨ (∃ i j, xs = [.int i, .int j] ∧ Q (.int (if j < i then j else i)) H)
def rMaxA (K : Fr) : List V → Hp → VK → Prop := fun xs H Q => rMax K xs H Q ∨ (∃ i j, xs = [.int i, .int j] ∧ Q (.int (if j > i then j else i)) H)
theorem rc_min1 : RCB X (rMinA X.fr) minF [true] := by
  intro O H vs ds d Q ht h e q
  obtain ⟨v, d', rfl, rfl, r⟩ := rpk1 h
  cases d' <;> simp only [minF] at e <;> try cases e
  split at e
  · rename_i n ns hns
    cases e
    obtain rfl := intsOf_eq hns
    obtain ⟨p, xs, rfl, h1, h2⟩ := r.lst
    obtain rfl := rp_ints h2
    refine .inl ⟨p, n :: ns, rfl, .inl h1, by simp, fun m hm hl => ?_⟩
    have e1 := hl _ (foldl_min_mem ns n)
    obtain ⟨e2, e3⟩ := foldl_min_le ns n
    have e4 : ns.foldl min n ≤ m := by
      rcases List.mem_cons.mp hm with rfl | hm
      · exact e2
      · exact e3 m hm
    have e5 : ns.foldl min n = m := by omega
    rw [e5] at q
    exact q _ H Same.refl (.int _)
  · cases e
theorem rc_min2 : RCB X (rMinA X.fr) minF [true, true] := by
  intro O H vs ds d Q ht h e q
  obtain ⟨v, w, d', e', rfl, rfl, r1, r2⟩ := rpk2 h
  cases d' <;> cases e' <;> simp only [minF] at e <;> try cases e
  obtain rfl := r1.int; obtain rfl := r2.int
  refine .inr ⟨_, _, rfl, ?_⟩
  rename_i i j
  have e5 : (if j < i then j else i) = min i j := by split <;> omega
  rw [e5]
  exact q _ H Same.refl (.int _)
theorem rc_max1 : RCB X (rMaxA X.fr) maxF [true] := by
  intro O H vs ds d Q ht h e q
  obtain ⟨v, d', rfl, rfl, r⟩ := rpk1 h
  cases d' <;> simp only [maxF] at e <;> try cases e
  split at e
  · rename_i n ns hns
    cases e
    obtain rfl := intsOf_eq hns
    obtain ⟨p, xs, rfl, h1, h2⟩ := r.lst
    obtain rfl := rp_ints h2
    refine .inl ⟨p, n :: ns, rfl, .inl h1, by simp, fun m hm hl => ?_⟩
    have e1 := hl _ (foldl_max_mem ns n)
    obtain ⟨e2, e3⟩ := foldl_max_ge ns n
    have e4 : m ≤ ns.foldl max n := by
      rcases List.mem_cons.mp hm with rfl | hm
      · exact e2
      · exact e3 m hm
    have e5 : ns.foldl max n = m := by omega
    rw [e5] at q
    exact q _ H Same.refl (.int _)
  · cases e
theorem rc_max2 : RCB X (rMaxA X.fr) maxF [true, true] := by
  intro O H vs ds d Q ht h e q
  obtain ⟨v, w, d', e', rfl, rfl, r1, r2⟩ := rpk2 h
  cases d' <;> cases e' <;> simp only [maxF] at e <;> try cases e
  obtain rfl := r1.int; obtain rfl := r2.int
  refine .inr ⟨_, _, rfl, ?_⟩
  rename_i i j
  have e5 : (if j > i then j else i) = max i j := by split <;> omega
  rw [e5]
  exact q _ H Same.refl (.int _)
theorem cr_minA (g : Gd X W k) : CallR X (.builtin "min") (rMinA X.fr) := CallR.or (cr_min g.hc) (call_min2 g.hc)
theorem cr_maxA (g : Gd X W k) : CallR X (.builtin "max") (rMaxA X.fr) := CallR.or (cr_max g.hc) (call_max2 g.hc)
theorem rc_abs : RCB X (fun xs H Q => ∃ i, xs = [.int i] ∧ Q (.int (if i < 0 then -i else i)) H) absF [true] := by
  intro O H vs ds d Q ht h e q
  obtain ⟨v, d', rfl, rfl, r⟩ := rpk1 h
  cases d' <;> simp only [absF] at e <;> try cases e
  obtain rfl := r.int
  exact ⟨_, rfl, q _ H Same.refl (.int _)⟩
theorem rc_all : RCB X (rAll X.fr) allF [true] := by
  intro O H vs ds d Q ht h e q
  obtain ⟨v, d', rfl, rfl, r⟩ := rpk1 h
  cases d' <;> simp only [allF] at e <;> try cases e
  split at e
  · rename_i ns hns
    cases e
    obtain rfl := boolsOf_eq hns
    obtain ⟨p, xs, rfl, h1, h2⟩ := r.lst
    obtain rfl := rp_bools h2
    exact ⟨p, ns, rfl, .inl h1, q _ H Same.refl (.bl _)⟩
  · cases e
theorem rc_any : RCB X (rAny X.fr) anyF [true] := by
  intro O H vs ds d Q ht h e q
  obtain ⟨v, d', rfl, rfl, r⟩ := rpk1 h
  cases d' <;> simp only [anyF] at e <;> try cases e
  split at e
  · rename_i ns hns
    cases e
    obtain rfl := boolsOf_eq hns
    obtain ⟨p, xs, rfl, h1, h2⟩ := r.lst
    obtain rfl := rp_bools h2
    exact ⟨p, ns, rfl, .inl h1, q _ H Same.refl (.bl _)⟩
  · cases e
theorem rc_tup : RCB X (fun xs H Q => ∃ p ys, xs = [.ref p] ∧ ((SqL X.fr H p ys ∧ ∀ l, H l = none → Q (.ref l) (upd H l (.tup ys))) ∨ (SqT X.fr H p ys ∧ Q (.ref p) H))) tupF [true] := by
  intro O H vs ds d Q ht h e q
  obtain ⟨v, d', rfl, rfl, r⟩ := rpk1 h
  cases d' <;> simp only [tupF] at e <;> try cases e
  · obtain ⟨p, xs, rfl, h1, h2⟩ := r.lst
    exact ⟨p, xs, rfl, .inl ⟨.inl h1, fun l hl => q _ _ (same_upd hl) (new_tup ht hl h2)⟩⟩
  · obtain ⟨p, xs, rfl, h1, h2⟩ := r.tup
    exact ⟨p, xs, rfl, .inr ⟨.inl (.inl h1.2), q _ H Same.refl (.tup h1 h2)⟩⟩
theorem rc_lst : RCO X (fun xs H Q => ∃ p ys, xs = [.ref p] ∧ (SqL X.fr H p ys ∨ SqT X.fr H p ys) ∧ ∀ l, H l = none → Q (.ref l) (upd H l (.lst ys))) lstF [true] := by
  intro O H vs ds d Q ht h e q
  obtain ⟨v, d', rfl, rfl, r⟩ := rpk1 h
  cases d' <;> simp only [lstF] at e <;> try cases e
  · obtain ⟨p, xs, rfl, h1, h2⟩ := r.lst
    exact ⟨p, xs, rfl, .inl (.inl h1), fun l hl => q _ _ (same_upd hl) (.inr ⟨l, rfl, hl, new_own hl h2⟩)⟩
  · obtain ⟨p, xs, rfl, h1, h2⟩ := r.tup
    exact ⟨p, xs, rfl, .inr (.inl (.inl h1.2)), fun l hl => q _ _ (same_upd hl) (.inr ⟨l, rfl, hl, new_own hl h2⟩)⟩
theorem rc_int : RCB X (fun xs H Q => (∃ i, xs = [.int i] ∧ Q (.int i) H) ∨ ∃ k : Bool, xs = [.bl k] ∧ Q (.int (if k = true then 1 else 0)) H) intF [true] := by
  intro O H vs ds d Q ht h e q
  obtain ⟨v, d', rfl, rfl, r⟩ := rpk1 h
  cases d' <;> simp only [intF] at e <;> try cases e
  · obtain rfl := r.bool
    exact .inr ⟨_, rfl, q _ H Same.refl (.int _)⟩
  · obtain rfl := r.int
    exact .inl ⟨_, rfl, q _ H Same.refl (.int _)⟩
theorem strOk_ofString (s : String) : PyData.strOk (Str.ofString s) = true := by
  rw [Str.ofString_eq_toList]
  refine strOk_iff.mpr fun c hc => ?_
  simp only [List.toList_toArray, List.mem_map] at hc
  obtain ⟨z, _, rfl⟩ := hc
  have h := z.valid
  show z.val.toNat < _
  rcases h with h | ⟨_, h⟩
  · have : z.val.toNat < 0xd800 := h
    omega
  · exact h
def rStrA : List V → Hp → VK → Prop := fun xs H Q => (∃ i : Int, xs = [.int i] ∧ i.natAbs.log2 < 1920 ∧ Q (.str (toString i)) H) ∨ ∃ a, xs = [.str a] ∧ Q (.str a) H
theorem cr_strA : CallR X (.type "str") rStrA := CallR.or call_str_int SkE.call_str_str
theorem rc_str : RCB X rStrA strF [true] := by
  intro O H vs ds d Q ht h e q
  obtain ⟨v, d', rfl, rfl, r⟩ := rpk1 h
  cases d' <;> simp only [strF] at e <;> try cases e
  · obtain rfl := r.int
    obtain ⟨c, rfl⟩ := okIf_ok e
    exact .inl ⟨_, rfl, of_decide_eq_true c, q _ H Same.refl (.str _ (strOk_ofString _))⟩
  · obtain ⟨rfl, h1⟩ := r.str
    exact .inr ⟨_, rfl, q _ H Same.refl (.str _ h1)⟩
theorem srtI_eq {ns ns' : List Int} (hp : ns'.Perm ns) (hs : ns'.Pairwise (· ≤ ·)) : ns' = srtI ns := by
  have h1 : (srtI ns).Perm ns := List.mergeSort_perm _ _
  have h2 : (srtI ns).Pairwise (fun a b => decide (a ≤ b) = true) := List.pairwise_mergeSort (fun a b c h k => by simp at *; omega) (fun a b => by simp; omega) ns
  refine (hp.trans h1.symm).eq_of_pairwise (fun a b _ _ h k => ?_) hs (h2.imp fun h => by simpa using h)
  exact Int.le_antisymm h k
theorem rc_sorted : RCO X (rSortedI X.fr) sortedF [true] := by
  intro O H vs ds d Q ht h e q
  obtain ⟨v, d', rfl, rfl, r⟩ := rpk1 h
  cases d' <;> simp only [sortedF] at e <;> try cases e
  split at e
  · rename_i ns hns
    cases e
    obtain rfl := intsOf_eq hns
    obtain ⟨p, xs, rfl, h1, h2⟩ := r.lst
    obtain rfl := rp_ints h2
    refine ⟨p, ns, rfl, .inl h1, fun ns' l hp hs hl => ?_⟩
    rw [srtI_eq hp hs]
    exact q _ _ (same_upd hl) (.inr ⟨l, rfl, hl, new_own hl (ints_rp _)⟩)
  · cases e

/-! ### isinstance -/
def isiD (T : String) : D → Bool
  | .none => T == "NoneType"
  | .bool _ => T == "bool" || T == "int"
  | .int _ => T == "int"
  | .str _ => T == "str"
  | .list _ => T == "list"
  | .tuple _ => T == "tuple"
  | .dict _ => T == "dict"
def okTy (T : String) : Bool := ["int", "bool", "str", "tuple", "list"].contains T
def tyN : D → String
  | .none => "NoneType"
  | .bool _ => "bool"
  | .int _ => "int"
  | .str _ => "str"
  | .list _ => "list"
  | .tuple _ => "tuple"
  | .dict _ => "dict"
theorem isi_kit {K : Fr} {T : String} (hT : okTy T = true) (d : D) : PySem.W.kitOne K (.type (tyN d)) (.type T) = some (isiD T d) := by
  have : T = "int" ∨ T = "bool" ∨ T = "str" ∨ T = "tuple" ∨ T = "list" := by simpa [okTy] using hT
  rcases this with rfl | rfl | rfl | rfl | rfl <;> cases d <;> (simp only [tyN, isiD]; exact kit_ty (by decide +kernel))
def noDct : D → Bool
  | .dict _ => false
  | _ => true
theorem rs_ty {K : Fr} {O : List Addr} {H : Hp} {v : V} {d : D} (h : Rs K O H H v d) (nd : noDct d = true) : TyX K H v (.type (tyN d)) := by
  cases d with
  | none => obtain rfl := h.non; exact .base .non
  | bool b => obtain rfl := h.bool; exact .base (.bl b)
  | int i => obtain rfl := h.int; exact .base (.int i)
  | str x => obtain ⟨rfl, _⟩ := h.str; exact .base (.str x)
  | list ds =>
    obtain ⟨p, xs, rfl, h1, _⟩ := h.lst
    rcases h1 with h1 | ⟨o, h1⟩
    · exact .base (.lst h1)
    · exact .base (.frz h1)
  | tuple ds =>
    obtain ⟨p, xs, rfl, h1, _⟩ := h.tup
    exact .base (.tup h1.2)
  | dict ds =>
    simp [noDct] at nd
def isiF (T : String) : D → R D := fun d => okIf (noDct d) (.bool (isiD T d))
def tIsi (K : Fr) (mg : Str → Option Value) (W : WX) (B Ω : List Nat) (T : String) (g : Env → R D) : TA := tCons (tB K mg W B Ω g) (tCons (tC (.ty T)) tNil)
theorem px_isi {T : String} {pT : Pos} {nT : Str} (hg : Gl X "isinstance") (hm : X.mg "isinstance" = none) (hgT : Gl X nT) (hmT : X.mg nT = none) (hvT : bootBuiltins nT = some (.type T)) (hT : okTy T = true) (ha : PB X W B Ω a ga)
    (hn : nT ≠ "__name__" := by decide) (hd : (nT == ("__debug__" : Str)) = false := by decide) (hs : starEach [a, .Name nT pT] X.env = (false, eval a X.env) :: starEach [.Name nT pT] X.env := by rfl) (hs2 : starEach [.Name nT pT] X.env = (false, eval (.Name nT pT) X.env) :: starEach [] X.env := by rfl)
    (hpl : (backTo pos (starEach [.Name nT pT] X.env)).any (·.1) = false := by rfl) :
    PX X W B Ω (.Call (.Name "isinstance" p) [a, .Name nT pT] [] pos) (x1 (isiF T) ga) := by
  refine PE.imp (pe_callB call_isi hg hm (by decide +kernel) (pa_cons ha (pa_cons (pe_bltn (v := .ty T) hgT hmT hvT rfl hn hd) pa_nil hs2) hs) (by decide) (by decide) hs hpl) fun σ H Q ⟨H0, O0, O, ρ, S, h⟩ => ⟨H0, O0, O, ρ, S, Good.bind (f := isiF T) h fun d v H1 e s1 r1 h1 => ?_⟩
  obtain ⟨z, ez⟩ := h1.ok_of fun n hn => by simp [isiF] at hn
  rw [ez] at h1
  obtain ⟨nd, rfl⟩ := okIf_ok ez
  exact ⟨v, .ty T, _, .type T, _, rfl, .ty T, rs_ty r1 nd, isi_kit (K := X.fr) hT d, h1.use (.bl _)⟩

/-! ### the text's own defs -/
/-- what a def hands back -/
def RetG (K : Fr) (fr : Bool) (O : List Addr) (H : Hp) (d : D) (Q : VK) : Prop :=
  if fr = true then ∀ v H', Same H H' → RelO K O H H' v d → Q v H' else ∀ v H', Same H H' → Rp K O H' v d → Q v H'
def spM (K : Fr) (mg : Str → Option Value) (ks : List Bool) (fr : Bool) (g : List D → R D) : Sp := fun vs H Q E => ∃ O ds, (∀ a ∈ O, H a ≠ none) ∧ RpK K O H ks vs ds ∧
  match g ds with
  | .ok d => RetG K fr O H d Q
  | .exc n => ∀ C H', mg n = some (Value.ref C) → Same H H' → E (.ref C) none H'
  | .stuck => False
variable {f : Addr} {fd : FuncData} {ps : List Str} {g : List D → R D} {j : Nat}
theorem px_call (G : Gd X W k) (F : FnOk X.prog X.w X.K X.mg X.base (L2N.CX X.prog X.w) j f fd ps (spM X.fr X.mg ks false g)) (hj : j ≤ k) (hg : Gl X nm) (hm : X.mg nm = some (.ref f)) (hk : PySem.W.keepIn X.K (.ref f) = true) (hb : Binds X.K fd ps [])
    (ha : PAk X W B Ω ks (e :: es) gs) (hdb : (nm == ("__debug__" : Str)) = false := by decide) (he : starEach (e :: es) X.env = (false, eval e X.env) :: starEach es X.env := by rfl) (hpl : (backTo pos (starEach es X.env)).any (·.1) = false := by rfl) :
    PX X W B Ω (.Call (.Name nm p) (e :: es) [] pos) (xCall g gs) :=
  PE.imp (pe_callS F (G.hr.mono hj) hg hm hk hb (fun σ => L2N.passAt G.tk σ) ha hdb he hpl) fun σ H Q ⟨H0, O0, O, ρ, S, h⟩ => ⟨H0, O0, O, ρ, S, Good.bind (f := g) h fun ds vs H1 e s1 r1 h1 => by
    refine ⟨O, ds, (S.same s1).trk, r1, ?_⟩
    cases q : g ds with
    | ok d => rw [q] at h1; exact h1
    | exc n => rw [q] at h1; exact h1
    | stuck => rw [q] at h1; exact h1⟩
theorem po_call (G : Gd X W k) (F : FnOk X.prog X.w X.K X.mg X.base (L2N.CX X.prog X.w) j f fd ps (spM X.fr X.mg ks true g)) (hj : j ≤ k) (hg : Gl X nm) (hm : X.mg nm = some (.ref f)) (hk : PySem.W.keepIn X.K (.ref f) = true) (hb : Binds X.K fd ps [])
    (ha : PAk X W B Ω ks (e :: es) gs) (hdb : (nm == ("__debug__" : Str)) = false := by decide) (he : starEach (e :: es) X.env = (false, eval e X.env) :: starEach es X.env := by rfl) (hpl : (backTo pos (starEach es X.env)).any (·.1) = false := by rfl) :
    PO X W B Ω (.Call (.Name nm p) (e :: es) [] pos) (xCall g gs) :=
  PE.imp (pe_callS F (G.hr.mono hj) hg hm hk hb (fun σ => L2N.passAt G.tk σ) ha hdb he hpl) fun σ H Q ⟨H0, O0, O, ρ, S, h⟩ => ⟨H0, O0, O, ρ, S, Good.bind (f := g) h fun ds vs H1 e s1 r1 h1 => by
    refine ⟨O, ds, (S.same s1).trk, r1, ?_⟩
    cases q : g ds with
    | ok d => rw [q] at h1; exact fun v H' s r => h1 v H' s (rel_back s1 r)
    | exc n => rw [q] at h1; exact h1
    | stuck => rw [q] at h1; exact h1⟩
end
end MV

set_option Elab.async false
set_option linter.all false
set_option maxRecDepth 100000
set_option maxHeartbeats 4000000
namespace MV
open PySem L2

/-! ### the state once more -/
section
variable {K : Fr} {H0 : Hp} {O0 : List Addr} {B Ω : List Nat} {O O' : List Addr} {H H' : Hp} {σ : St} {ρ : Env} {v : V} {d : D} {vs : List V} {ds : List D}
theorem step_rd (s : Step O H O' H') : ∀ a u, a ∉ O → H a = some u → a ∉ O' ∧ H' a = some u := fun a u ho r => by
  refine ⟨fun z => ?_, s.ge a u ho r⟩
  rcases s.new a z with q | q
  · exact ho q
  · exact ne_of_none r q rfl
theorem Rp.step (s : Step O H O' H') (h : Rp K O H v d) : Rp K O' H' v d := Rp.map (step_rd s) d v h
theorem RpAll.step (s : Step O H O' H') (h : RpAll K O H vs ds) : RpAll K O' H' vs ds := RpAll.map (step_rd s) ds vs h
theorem Stt.set' {i : Nat} (S : Stt K H0 O0 B Ω O H σ ρ) (r : Rp K O H v d) (hB : B.contains i = false) (hΩ : Ω.contains i = false) : Stt K H0 O0 B Ω O H (σ.set i (some v)) (ρ.set i (some d)) := by
  have h := S.set (i := i) r (by simpa using hB)
  have e : Ω.filter (· ≠ i) = Ω := List.filter_eq_self.mpr fun a ha => by
    have : i ∉ Ω := by simpa using hΩ
    simp only [ne_eq, decide_not, Bool.not_eq_eq_eq_not, Bool.not_true, decide_eq_false_iff_not]
    rintro rfl; exact this ha
  rw [e] at h; exact h
/-- a slot is forgotten -/
theorem Stt.unset {i : Nat} {o : Option V} (S : Stt K H0 O0 B Ω O H σ ρ) : Stt K H0 O0 B Ω O H (σ.set i o) (ρ.set i none) where
  keep := S.keep
  trk0 := S.trk0
  sub := S.sub
  trk := S.trk
  fz := fun j e h1 h2 h3 => by
    by_cases hj : i = j
    · subst hj
      by_cases hl : i < ρ.length
      · rw [List.getElem?_set_self hl] at h1; cases h1
      · rw [List.getElem?_eq_none (by simpa using hl)] at h1; cases h1
    · rw [List.getElem?_set_ne hj] at h1
      rw [List.getElem?_set_ne hj]
      exact S.fz j e h1 h2 h3
  bor := fun j e h1 h2 h3 => by
    by_cases hj : i = j
    · subst hj
      by_cases hl : i < ρ.length
      · rw [List.getElem?_set_self hl] at h1; cases h1
      · rw [List.getElem?_eq_none (by simpa using hl)] at h1; cases h1
    · rw [List.getElem?_set_ne hj] at h1
      rw [List.getElem?_set_ne hj]
      exact S.bor j e h1 h2 h3
  ow := fun j e h1 h2 => by
    by_cases hj : i = j
    · subst hj
      by_cases hl : i < ρ.length
      · rw [List.getElem?_set_self hl] at h1; cases h1
      · rw [List.getElem?_eq_none (by simpa using hl)] at h1; cases h1
    · rw [List.getElem?_set_ne hj] at h1
      rw [List.getElem?_set_ne hj]
      exact S.ow j e h1 h2
  dist := fun j hj k hk hne p d e h1 h2 h3 => by
    by_cases a1 : i = j
    · subst a1
      by_cases hl : i < ρ.length
      · rw [List.getElem?_set_self hl] at h1; cases h1
      · rw [List.getElem?_eq_none (by simpa using hl)] at h1; cases h1
    · by_cases a2 : i = k
      · subst a2
        by_cases hl : i < ρ.length
        · rw [List.getElem?_set_self hl] at h2; cases h2
        · rw [List.getElem?_eq_none (by simpa using hl)] at h2; cases h2
      · rw [List.getElem?_set_ne a1] at h1 h3
        rw [List.getElem?_set_ne a2] at h2
        rw [List.getElem?_set_ne a2]
        exact S.dist j hj k hk hne p d e h1 h2 h3
  len := by simp [S.len]
def wipeE (ρ : Env) : List Nat → Env
  | [] => ρ
  | v :: vs => (wipeE ρ vs).set v none
theorem Stt.wipe (S : Stt K H0 O0 B Ω O H σ ρ) : ∀ ws : List Nat, Stt K H0 O0 B Ω O H (L2.wipe σ ws) (wipeE ρ ws)
  | [] => S
  | w :: ws => (Stt.wipe S ws).unset
/-- the address p is watched, too -/
theorem Stt.watch {p : Addr} (S : Stt K H0 O0 B Ω O H σ ρ) (s : Same H H') (hp : H p = none) (hp' : H' p ≠ none) : Stt K H0 O0 B Ω (p :: O) H' σ ρ where
  keep := Same.tr S.keep s
  trk0 := S.trk0
  sub := fun a ha => List.mem_cons_of_mem _ (S.sub a ha)
  trk := fun a ha => by
    rcases List.mem_cons.mp ha with rfl | ha
    · exact hp'
    · exact (S.same s).trk a ha
  fz := fun i d e h1 h2 => let ⟨v, e', r⟩ := S.fz i d e h1 h2; ⟨v, e', (r.fresh hp).same s⟩
  bor := fun i d e h1 h2 => let ⟨v, e', r⟩ := S.bor i d e h1 h2; ⟨v, e', (r.fresh hp).ge Same.refl (Ge.of_same s)⟩
  ow := fun i d e h1 => by
    rcases S.ow i d e h1 with ⟨ha, v, e', r⟩ | ⟨q, e', h2, h3, h4⟩
    · exact .inl ⟨ha, v, e', (r.fresh hp).same s⟩
    obtain ⟨o, eo⟩ := h4.some
    exact .inr ⟨q, e', List.mem_cons_of_mem _ h2, h3, (h4.fresh hp).ge (Ge.of_same s) ((s q o eo).trans eo.symm)⟩
  dist := S.dist
  len := S.len
/-- what stands at a watched address changes -/
theorem Stt.chg {p : Addr} {o : HO} (S : Stt K H0 O0 B Ω O H σ ρ) (hp : p ∈ O) (h0 : H0 p = none) (hno : ∀ j ∈ Ω, ∀ d, ρ[j]? = some (some d) → σ[j]? ≠ some (some (.ref p))) : Stt K H0 O0 B Ω O (upd H p o) σ ρ := by
  have ge : Ge O H (upd H p o) := fun a u ha e => by rw [upd_ne (fun z => ha (by rw [z]; exact hp))]; exact e
  refine ⟨fun a u e => ?_, S.trk0, S.sub, fun a ha => ?_, fun i d e h1 h2 => ?_, fun i d e h1 h2 => ?_, fun i d e h1 => ?_, S.dist, S.len⟩
  · have : a ≠ p := fun z => by rw [z, h0] at e; cases e
    rw [upd_ne this]; exact S.keep a u e
  · by_cases h : a = p
    · subst h; rw [upd_same]; simp
    · rw [upd_ne h]; exact S.trk a ha
  · obtain ⟨v, e', r⟩ := S.fz i d e h1 h2
    exact ⟨v, e', r.ge ge⟩
  · obtain ⟨v, e', r⟩ := S.bor i d e h1 h2
    exact ⟨v, e', r.ge Same.refl ge⟩
  · rcases S.ow i d e h1 with ⟨ha, v, e', r⟩ | ⟨q, e', h2, h3, h4⟩
    · exact .inl ⟨ha, v, e', r.ge ge⟩
    have hq : q ≠ p := fun z => hno i h1 d e (z ▸ e')
    exact .inr ⟨q, e', h2, h3, h4.ge ge (upd_ne hq)⟩
/-- the own thing of a slot changes -/
theorem Stt.put {i : Nat} {p : Addr} {o : HO} {e d : D} (S : Stt K H0 O0 B Ω O H σ ρ) (hi : i ∈ Ω) (hB : i ∉ B) (he : ρ[i]? = some (some e)) (hp : σ[i]? = some (some (.ref p))) (w : OwnAt K O (upd H p o) p d) :
    Stt K H0 O0 B Ω O (upd H p o) σ (ρ.set i (some d)) ∧ Step O H O (upd H p o) := by
  obtain ⟨e2, e3, e4⟩ := S.owR i e he hi hp
  have ge : Ge O H (upd H p o) := fun a u ha e => by rw [upd_ne (fun z => ha (by rw [z]; exact e2))]; exact e
  refine ⟨⟨fun a u e => ?_, S.trk0, S.sub, fun a ha => ?_, fun j d h1 h2 h3 => ?_, fun j d h1 h2 h3 => ?_, fun j d h1 h2 => ?_, fun j hj k hk hne q d' e' h1 h2 h3 => ?_, by simp [S.len]⟩, ge, fun a h => .inl h⟩
  · have : a ≠ p := fun z => by rw [z, e3] at e; cases e
    rw [upd_ne this]; exact S.keep a u e
  · by_cases h : a = p
    · subst h; rw [upd_same]; simp
    · rw [upd_ne h]; exact S.trk a ha
  · have hj : i ≠ j := fun z => h2 (z ▸ hi)
    rw [List.getElem?_set_ne hj] at h1
    obtain ⟨v, e', r⟩ := S.fz j d h1 h2 h3
    exact ⟨v, e', r.ge ge⟩
  · have hj : i ≠ j := fun z => h2 (z ▸ hi)
    rw [List.getElem?_set_ne hj] at h1
    obtain ⟨v, e', r⟩ := S.bor j d h1 h2 h3
    exact ⟨v, e', r.ge Same.refl ge⟩
  · by_cases hj : i = j
    · subst hj
      obtain ⟨hl, _⟩ := List.getElem?_eq_some_iff.mp he
      rw [List.getElem?_set_self hl] at h1
      cases h1
      exact .inr ⟨p, hp, e2, e3, w⟩
    · rw [List.getElem?_set_ne hj] at h1
      rcases S.ow j d h1 h2 with ⟨ha, v, e', r⟩ | ⟨q, e', r2, r3, r4⟩
      · exact .inl ⟨ha, v, e', r.ge ge⟩
      have hq : q ≠ p := fun z => S.dist i hi j h2 hj p _ _ he h1 hp (z ▸ e')
      exact .inr ⟨q, e', r2, r3, r4.ge ge (upd_ne hq)⟩
  · have back : ∀ {m : Nat} {x : D}, (ρ.set i (some d))[m]? = some (some x) → ∃ y, ρ[m]? = some (some y) := fun {m x} h => by
      by_cases hm : i = m
      · subst hm; exact ⟨e, he⟩
      · rw [List.getElem?_set_ne hm] at h; exact ⟨x, h⟩
    obtain ⟨y1, k1⟩ := back h1
    obtain ⟨y2, k2⟩ := back h2
    exact S.dist j hj k hk hne q _ _ k1 k2 h3
end

/-! ### targets -/
section
variable {X : Cx} {W : WX} {B Ω : List Nat} {k : Nat}
def TgU (K : Fr) (B Ω : List Nat) (g : TG) (is : List Nat) (bnd : D → Env → Option Env) : Prop :=
  ∀ {H0 : Hp} {O0 O : List Addr} {H : Hp} {σ : St} {ρ ρ' : Env} {v : V} {d : D} {Q : St → Hp → Prop}, Stt K H0 O0 B Ω O H σ ρ → Rp K O H v d → bnd d ρ = some ρ' →
    (∀ σ', Stt K H0 O0 B Ω O H σ' ρ' → (∀ ws : List Nat, (∀ i ∈ is, i ∈ ws) → wipe σ' ws = wipe σ ws) → (∀ j ∈ Ω, σ'[j]? = σ[j]?) → Q σ' H) → g v σ H Q
def bName (i : Nat) : D → Env → Option Env := fun d ρ => some (ρ.set i (some d))
theorem wipe_get : ∀ (ws : List Nat) (σ : St) (j : Nat), (wipe σ ws)[j]? = if j ∈ ws then (if j < σ.length then some none else none) else σ[j]?
  | [], σ, j => by simp [wipe]
  | w :: ws, σ, j => by
    unfold wipe
    by_cases hj : w = j
    · subst hj
      rw [if_pos List.mem_cons_self]
      by_cases hl : w < σ.length
      · rw [List.getElem?_set_self (by rw [wipe_length]; exact hl), if_pos hl]
      · rw [List.getElem?_eq_none (by rw [List.length_set, wipe_length]; omega), if_neg hl]
    · rw [List.getElem?_set_ne hj, wipe_get ws σ j]
      by_cases hm : j ∈ ws
      · rw [if_pos hm, if_pos (List.mem_cons_of_mem _ hm)]
      · rw [if_neg hm, if_neg (fun z => (List.mem_cons.mp z).elim (fun q => hj q.symm) hm)]
theorem wipe_set {σ : St} {ws : List Nat} {i : Nat} {o : Option V} (h : i ∈ ws) : wipe (σ.set i o) ws = wipe σ ws := by
  apply List.ext_getElem?
  intro j
  rw [wipe_get, wipe_get, List.length_set]
  by_cases hj : j ∈ ws
  · rw [if_pos hj, if_pos hj]
  · rw [if_neg hj, if_neg hj, List.getElem?_set_ne (fun z => hj (by rw [← z]; exact h))]
theorem tgu_name {K : Fr} {i : Nat} (hB : B.contains i = false) (hΩ : Ω.contains i = false) : TgU K B Ω (gName i) [i] (bName i) :=
  fun {H0 O0 O H σ ρ ρ' v d Q} S r e q => by
    cases e
    refine q _ (S.set' r hB hΩ) (fun ws h => wipe_set (h i List.mem_cons_self)) fun j hj => List.getElem?_set_ne fun z => ?_
    have : i ∉ Ω := by simpa using hΩ
    exact this (z ▸ hj)
def setAll : Env → List Nat → List D → Option Env
  | ρ, [], [] => some ρ
  | ρ, i :: is, d :: ds => setAll (ρ.set i (some d)) is ds
  | _, _, _ => none
def bTup (is : List Nat) : D → Env → Option Env := fun d ρ => match d with
  | .tuple ds => setAll ρ is ds
  | _ => none
def TgsU (K : Fr) (B Ω : List Nat) (g : TGs) (is : List Nat) : Prop :=
  ∀ {H0 : Hp} {O0 O : List Addr} {H : Hp} {σ : St} {ρ ρ' : Env} {vs : List V} {ds : List D} {Q : St → Hp → Prop}, Stt K H0 O0 B Ω O H σ ρ → RpAll K O H vs ds → setAll ρ is ds = some ρ' →
    (∀ σ', Stt K H0 O0 B Ω O H σ' ρ' → (∀ ws : List Nat, (∀ i ∈ is, i ∈ ws) → wipe σ' ws = wipe σ ws) → (∀ j ∈ Ω, σ'[j]? = σ[j]?) → Q σ' H) → g vs σ H Q
theorem tgsu_nil {K : Fr} : TgsU K B Ω gNil [] := fun {H0 O0 O H σ ρ ρ' vs ds Q} S r e q => by
    cases ds with
    | nil => cases r; cases e; exact ⟨rfl, q _ S (fun _ _ => rfl) fun _ _ => rfl⟩
    | cons d ds => cases e
theorem tgsu_cons {K : Fr} {i : Nat} {g : TGs} {is : List Nat} (hB : B.contains i = false) (hΩ : Ω.contains i = false) (h : TgsU K B Ω g is) : TgsU K B Ω (gCons (gName i) g) (i :: is) :=
  fun {H0 O0 O H σ ρ ρ' vs ds Q} S r e q => by
    cases ds with
    | nil => cases e
    | cons d ds =>
      cases r with
      | cons r1 r2 =>
        refine ⟨_, _, rfl, h (S.set' r1 hB hΩ) r2 e fun σ' S' hw ho => q σ' S' (fun ws hh => ?_) fun j hj => ?_⟩
        · rw [hw ws fun z hz => hh z (List.mem_cons_of_mem _ hz), wipe_set (hh i List.mem_cons_self)]
        · rw [ho j hj]
          refine List.getElem?_set_ne fun z => ?_
          have : i ∉ Ω := by simpa using hΩ
          exact this (z ▸ hj)
theorem setAll_len : ∀ {is : List Nat} {ds : List D} {ρ ρ' : Env}, setAll ρ is ds = some ρ' → ds.length = is.length
  | [], [], _, _, _ => rfl
  | i :: is, d :: ds, ρ, ρ', h => by simp [setAll_len (show setAll (ρ.set i (some d)) is ds = some ρ' from h)]
  | [], d :: ds, _, _, h => by cases h
  | i :: is, [], _, _, h => by cases h
theorem tgu_tup {K : Fr} {g : TGs} {is : List Nat} {n : Nat} (h : TgsU K B Ω g is) (hn : is.length = n) : TgU K B Ω (gTup K n g) is (bTup is) :=
  fun {H0 O0 O H σ ρ ρ' v d Q} S r e q => by
    cases d <;> simp only [bTup] at e <;> try cases e
    cases r with
    | tup h1 h2 => exact ⟨_, _, rfl, .inl (.inl h1.2), by rw [h2.length, setAll_len e, hn], h S h2 e q⟩
end

/-! ### what is walked -/
section
variable {X : Cx} {W : WX} {B Ω : List Nat} {k : Nat} {tg a b e : Expr} {ga gb : Env → R D} {pos p : Pos}
/-- the iterator J hands out ds; H1: where it was made -/
def ItOk (K : Fr) (H0 : Hp) (O : List Addr) (H1 : Hp) (J : It) (ds : List D) : Prop := ∀ O' H', Same H0 H' → Step O H1 O' H' → (∀ a ∈ O', H' a ≠ none) →
  (∀ (i : Nat) d, ds[i]? = some d → J.go i H' ∧ ∀ x H2, J.yld i H' x H2 → Same H' H2 ∧ Rp K O' H2 x d) ∧ J.stop ds.length H'
def ItOkc (K : Fr) (O : List Addr) (H1 : Hp) (J : It) (ds : List D) : Prop := ∀ O' H', Same H1 H' → Step O H1 O' H' → (∀ a ∈ O', H' a ≠ none) →
  (∀ (i : Nat) d, ds[i]? = some d → J.go i H' ∧ ∀ x H2, J.yld i H' x H2 → Same H' H2 ∧ Rp K O' H2 x d) ∧ J.stop ds.length H'
def GoodI (mg : Str → Option Value) (W : WX) (σ : St) (P : Hp → It → List D → Prop) (H : Hp) (r : R (List D)) (Q : It → Hp → Prop) : Prop := Good (β := It) mg W σ (fun H1 J ds => P H1 J ds) H r Q
def tIs (K : Fr) (mg : Str → Option Value) (W : WX) (B Ω : List Nat) (g : Env → R (List D)) : TI := fun σ H Q => ∃ H0 O0 O ρ, Stt K H0 O0 B Ω O H σ ρ ∧ Good mg W σ (fun H1 J ds => ItOk K H0 O H1 J ds) H (g ρ) Q
def tIc (K : Fr) (mg : Str → Option Value) (W : WX) (B Ω : List Nat) (g : Env → R (List D)) : TI := fun σ H Q => ∃ H0 O0 O ρ, Stt K H0 O0 B Ω O H σ ρ ∧ Good mg W σ (fun H1 J ds => ItOkc K O H1 J ds) H (g ρ) Q
def PIs (X : Cx) (W : WX) (B Ω : List Nat) (tg e : Expr) (g : Env → R (List D)) : Prop := PI X tg e (tIs X.fr X.mg W B Ω g)
def PIc (X : Cx) (W : WX) (B Ω : List Nat) (tg e : Expr) (g : Env → R (List D)) : Prop := PI X tg e (tIc X.fr X.mg W B Ω g)
theorem PI.imp {tg e : Expr} {t t' : TI} (h : PI X tg e t) (w : ∀ σ H Q, t' σ H Q → t σ H Q) : PI X tg e t' := ⟨fun pins s σ H R I q => h.run pins s σ H R I (w σ H R q)⟩
theorem PI.or {tg e : Expr} {t t' : TI} (h : PI X tg e t) (h' : PI X tg e t') : PI X tg e (fun σ H R => t σ H R ∨ t' σ H R) := ⟨fun pins s σ H R I q => q.elim (h.run pins s σ H R I) (h'.run pins s σ H R I)⟩
def seqD : D → R (List D)
  | .list ds => .ok ds
  | .tuple ds => .ok ds
  | .str z => .ok (z.cps.toList.map fun c => .str ⟨#[c]⟩)
  | _ => .stuck
def xSeq (g : Env → R D) : Env → R (List D) := fun ρ => (g ρ).bind seqD
theorem list_it {K : Fr} {O O' : List Addr} {H1 H' : Hp} {a : Addr} {xs : List V} {ds : List D} (h : RpAll K O H1 xs ds) (s : Step O H1 O' H') (r : Rd H' a (.lst xs)) (inj : ∀ ys, SqL K H' a ys → ys = xs) :
    (∀ (i : Nat) d, ds[i]? = some d → (Itl K a).go i H' ∧ ∀ x H2, (Itl K a).yld i H' x H2 → Same H' H2 ∧ Rp K O' H2 x d) ∧ (Itl K a).stop ds.length H' := by
  refine ⟨fun i d e => ?_, xs, .inl r, by rw [h.length]; exact Nat.le_refl _⟩
  obtain ⟨v, ev, rv⟩ := h.get e
  refine ⟨⟨xs, v, .inl r, ev⟩, fun x H2 ⟨e2, y⟩ => ?_⟩
  subst e2
  have := y xs (.inl r)
  rw [ev] at this; cases this
  exact ⟨Same.refl, rv.step s⟩
theorem tup_it {K : Fr} {O O' : List Addr} {H1 H' : Hp} {a : Addr} {xs : List V} {ds : List D} (h : RpAll K O H1 xs ds) (s : Step O H1 O' H') (r : Rd H' a (.tup xs)) :
    (∀ (i : Nat) d, ds[i]? = some d → (Itt K a).go i H' ∧ ∀ x H2, (Itt K a).yld i H' x H2 → Same H' H2 ∧ Rp K O' H2 x d) ∧ (Itt K a).stop ds.length H' := by
  refine ⟨fun i d e => ?_, xs, .inl r, by rw [h.length]; exact Nat.le_refl _⟩
  obtain ⟨v, ev, rv⟩ := h.get e
  refine ⟨⟨xs, v, .inl r, ev⟩, fun x H2 ⟨e2, y⟩ => ?_⟩
  subst e2
  have := y xs (.inl r)
  rw [ev] at this; cases this
  exact ⟨Same.refl, rv.step s⟩
theorem list_it' {K : Fr} {O O' : List Addr} {H1 H' : Hp} {a : Addr} {xs : List V} {ds : List D} (h : RpAll K O H1 xs ds) (s : Step O H1 O' H') (r : Rd H' a (.lst xs)) :
    (∀ (i : Nat) d, ds[i]? = some d → (Itl K a).go i H' ∧ ∀ x H2, (Itl K a).yld i H' x H2 → Same H' H2 ∧ Rp K O' H2 x d) ∧ (Itl K a).stop ds.length H' := by
  refine ⟨fun i d e => ?_, xs, .inl r, by rw [h.length]; exact Nat.le_refl _⟩
  obtain ⟨v, ev, rv⟩ := h.get e
  refine ⟨⟨xs, v, .inl r, ev⟩, fun x H2 ⟨e2, y⟩ => ?_⟩
  subst e2
  have := y xs (.inl r)
  rw [ev] at this; cases this
  exact ⟨Same.refl, rv.step s⟩
theorem str_it {K : Fr} {O' : List Addr} {H' : Hp} {z : Str} (h : PyData.strOk z = true) :
    (∀ (i : Nat) d, (z.cps.toList.map fun c => PyData.str ⟨#[c]⟩)[i]? = some d → (Its z).go i H' ∧ ∀ x H2, (Its z).yld i H' x H2 → Same H' H2 ∧ Rp K O' H2 x d) ∧ (Its z).stop (z.cps.toList.map fun c => PyData.str ⟨#[c]⟩).length H' := by
  refine ⟨fun i d e => ?_, by simp [Its]⟩
  rw [List.getElem?_map] at e
  cases q : z.cps.toList[i]? with
  | none => rw [q] at e; cases e
  | some c =>
    rw [q] at e; cases e
    have hi : i < z.cps.size := by have := (List.getElem?_eq_some_iff.mp q).1; simpa using this
    refine ⟨hi, fun x H2 ⟨e1, c', e2, e3⟩ => ?_⟩
    subst e1 e3
    rw [← Array.getElem?_toList, q] at e2
    cases e2
    exact ⟨Same.refl, .str _ (strOk_sub h fun c' h' => (List.mem_singleton.mp (show c' ∈ [c] from h')) ▸ List.mem_of_getElem? q)⟩
def wSeq (K : Fr) (t : TE) : TI := fun σ H R => iList K t σ H R ∨ (iTup K t σ H R ∨ iStr t σ H R)
theorem pi_seq {t : TE} (h : PE X e t) : PI X tg e (wSeq X.fr t) := PI.or (pi_list h) (PI.or (pi_tup h) (pi_str h))
/-- frozen data is walked -/
theorem pis_x (h : PX X W B Ω e ga) : PIs X W B Ω tg e (xSeq ga) := PI.imp (pi_seq h) fun σ H Q ⟨H0, O0, O, ρ, S, h⟩ => by
  have h : Good X.mg W σ (fun H1 J ds => ItOk X.fr H0 O H1 J ds) H ((ga ρ).bind seqD) Q := h
  cases q : ga ρ with
  | stuck => rw [q] at h; exact h.elim
  | exc n => rw [q] at h; exact .inl ⟨H0, O0, O, ρ, S, by rw [q]; exact h⟩
  | ok d =>
    rw [q] at h
    cases d <;> first | exact h.elim | skip
    · refine .inr (.inr ⟨H0, O0, O, ρ, S, ?_⟩)
      rw [q]
      intro v H1 s r
      cases r with
      | str _ hz => exact ⟨_, rfl, h _ H1 s fun O' H' _ st _ => str_it hz⟩
    · refine .inl ⟨H0, O0, O, ρ, S, ?_⟩
      rw [q]
      intro v H1 s r
      cases r with
      | lst h1 h2 => exact ⟨_, rfl, ⟨_, .inl h1.2⟩, h _ H1 s fun O' H' _ st _ => list_it' h2 st (ge_rd st.ge _ _ h1.1 h1.2).2⟩
    · refine .inr (.inl ⟨H0, O0, O, ρ, S, ?_⟩)
      rw [q]
      intro v H1 s r
      cases r with
      | tup h1 h2 => exact ⟨_, rfl, ⟨_, .inl (.inl h1.2)⟩, h _ H1 s fun O' H' _ st _ => tup_it h2 st (ge_rd st.ge _ _ h1.1 (.inl h1.2)).2⟩
/-- borrowed data is walked in a comprehension -/
theorem pic_b (h : PB X W B Ω e ga) : PIc X W B Ω tg e (xSeq ga) := PI.imp (pi_seq h) fun σ H Q ⟨H0, O0, O, ρ, S, h⟩ => by
  have h : Good X.mg W σ (fun H1 J ds => ItOkc X.fr O H1 J ds) H ((ga ρ).bind seqD) Q := h
  cases q : ga ρ with
  | stuck => rw [q] at h; exact h.elim
  | exc n => rw [q] at h; exact .inl ⟨H0, O0, O, ρ, S, by rw [q]; exact h⟩
  | ok d =>
    rw [q] at h
    cases d <;> first | exact h.elim | skip
    · refine .inr (.inr ⟨H0, O0, O, ρ, S, ?_⟩)
      rw [q]
      intro v H1 s r
      obtain ⟨rfl, hz⟩ := r.str
      exact ⟨_, rfl, h _ H1 s fun O' H' _ st _ => str_it hz⟩
    · refine .inl ⟨H0, O0, O, ρ, S, ?_⟩
      rw [q]
      intro v H1 s r
      obtain ⟨p, xs, rfl, h1, h2⟩ := r.lst
      exact ⟨_, rfl, ⟨_, .inl h1⟩, h _ H1 s fun O' H' ss st _ => list_it' h2 st (Rd.same ss h1)⟩
    · refine .inr (.inl ⟨H0, O0, O, ρ, S, ?_⟩)
      rw [q]
      intro v H1 s r
      obtain ⟨p, xs, rfl, h1, h2⟩ := r.tup
      exact ⟨_, rfl, ⟨_, .inl (.inl h1.2)⟩, h _ H1 s fun O' H' ss st _ => tup_it h2 st (Rd.same ss (.inl h1.2))⟩
/-- a borrowed parameter is walked -/
theorem pis_b {i : Nat} {x : Str} (hN : X.N[i]? = some x) (hv : Vis X.env.scope x) (ho : Ω.contains i = false) (hd : (x == ("__debug__" : Str)) = false := by decide) (hcd : (x == ("__classdict__" : Str)) = false := by decide) : PIs X W B Ω tg (.Name x pos) (xSeq (xVar i)) :=
  PI.imp (pi_seq (pe_var hN hv hd hcd)) fun σ H Q ⟨H0, O0, O, ρ, S, h⟩ => by
  have ho : i ∉ Ω := by simpa using ho
  have h : Good X.mg W σ (fun H1 J ds => ItOk X.fr H0 O H1 J ds) H ((xVar i ρ).bind seqD) Q := h
  unfold xVar at h
  cases er : ρ[i]? with
  | none => rw [er] at h; exact h.elim
  | some o =>
    cases o with
    | none => rw [er] at h; exact h.elim
    | some d =>
      rw [er] at h
      have fin : ∀ v, σ[i]? = some (some v) → Rs X.fr O H0 H v d → wSeq X.fr (tVar i) σ H Q := fun v ev r => by
        cases d <;> first | exact h.elim | skip
        · obtain ⟨rfl, hz⟩ := r.str
          exact .inr (.inr ⟨_, ev, _, rfl, h _ H Same.refl fun O' H' _ st _ => str_it hz⟩)
        · have out : ∀ p xs, v = .ref p → RpAll X.fr O H xs _ → (∀ O' H', Same H0 H' → Step O H O' H' → Rd H' p (.lst xs)) → Rd H p (.lst xs) → wSeq X.fr (tVar i) σ H Q := fun p xs ep h2 hr h1 => by
            subst ep
            exact .inl ⟨_, ev, p, rfl, ⟨xs, .inl h1⟩, h _ H Same.refl fun O' H' ss st _ => list_it' h2 st (hr O' H' ss st)⟩
          rcases r with r | ⟨p, rfl, xs, h1, h2⟩
          · cases r with
            | lst h1 h2 => exact out _ _ rfl h2 (fun O' H' _ st => (ge_rd st.ge _ _ h1.1 h1.2).2) h1.2
          · exact out p xs rfl h2 (fun O' H' ss _ => Rd.same ss h1) (Rd.same S.keep h1)
        · obtain ⟨p, xs, rfl, h1, h2⟩ := r.tup
          exact .inr (.inl ⟨_, ev, p, rfl, ⟨xs, .inl (.inl h1.2)⟩, h _ H Same.refl fun O' H' _ st _ => tup_it h2 st (ge_rd st.ge _ _ h1.1 (.inl h1.2)).2⟩)
      by_cases hb : i ∈ B
      · obtain ⟨v, ev, r⟩ := S.bor i d er ho hb
        exact fin v ev r
      · obtain ⟨v, ev, r⟩ := S.fz i d er ho hb
        exact fin v ev (.inl r)
theorem PIs.c {g : Env → R (List D)} (h : PIs X W B Ω tg e g) : PIc X W B Ω tg e g := PI.imp h fun σ H Q ⟨H0, O0, O, ρ, S, h⟩ => by
  refine ⟨H0, O0, O, ρ, S, ?_⟩
  cases q : g ρ with
  | stuck => rw [q] at h; exact h
  | exc n => rw [q] at h; exact h
  | ok ds =>
    rw [q] at h
    exact fun J H1 s i => h J H1 s fun O' H' ss st ht => i O' H' (Same.tr (Same.tr S.keep s) ss) st ht
/-- range -/
def rngL (lo : Int) (n : Nat) : List D := (List.range n).map fun (i : Nat) => PyData.int (lo + i)
def rng1 : List D → R (List D)
  | [.int j] => if -(2 ^ 62) ≤ j ∧ j < 2 ^ 62 then .ok (rngL 0 j.toNat) else .stuck
  | _ => .stuck
def rng2 : List D → R (List D)
  | [.int i, .int j] => if -(2 ^ 62) ≤ i ∧ i < 2 ^ 62 ∧ -(2 ^ 62) ≤ j ∧ j < 2 ^ 62 then .ok (rngL i (j - i).toNat) else .stuck
  | _ => .stuck
theorem rng_it {K : Fr} {O' : List Addr} {H' : Hp} (lo : Int) (n : Nat) :
    (∀ (i : Nat) d, (rngL lo n)[i]? = some d → (Itr lo n).go i H' ∧ ∀ x H2, (Itr lo n).yld i H' x H2 → Same H' H2 ∧ Rp K O' H2 x d) ∧ (Itr lo n).stop (rngL lo n).length H' := by
  refine ⟨fun i d e => ?_, by simp [rngL, Itr]⟩
  unfold rngL at e
  rw [List.getElem?_map] at e
  cases q : (List.range n)[i]? with
  | none => rw [q] at e; cases e
  | some j =>
    rw [q] at e; cases e
    obtain ⟨hi, ej⟩ := List.getElem?_eq_some_iff.mp q
    rw [List.getElem_range] at ej
    subst ej
    have hi' : i < n := by simpa using hi
    refine ⟨hi', fun x H2 ⟨e1, e2⟩ => ?_⟩
    subst e1 e2
    exact ⟨Same.refl, .int _⟩
def xRng (f : List D → R (List D)) (gs : Env → R (List D)) : Env → R (List D) := fun ρ => (gs ρ).bind f
theorem pis_range1 {gs : Env → R (List D)} (hg : Gl X "range") (hm : X.mg "range" = none) (ha : PAf X W B Ω [a] gs) (hs : starEach [a] X.env = [(false, eval a X.env)] := by rfl) : PIs X W B Ω tg (.Call (.Name "range" p) [a] [] pos) (xRng rng1 gs) :=
  PI.imp (pi_range1 hg hm ha hs) fun σ H Q ⟨H0, O0, O, ρ, S, h⟩ => ⟨H0, O0, O, ρ, S, Good.bind (f := rng1) h fun ds vs H1 e s1 r1 h1 => by
    unfold rng1 at h1
    split at h1
    · rename_i j
      split at h1
      · rename_i hj
        cases r1 with
        | cons r1 r2 =>
          cases r1; cases r2
          exact ⟨j, rfl, hj.1, hj.2, h1.use fun O' H' _ _ _ => rng_it 0 j.toNat⟩
      · exact h1.elim
    · exact h1.elim⟩
theorem pis_range2 {gs : Env → R (List D)} (hg : Gl X "range") (hm : X.mg "range" = none) (ha : PAf X W B Ω [a, b] gs) (hs : starEach [a, b] X.env = [(false, eval a X.env), (false, eval b X.env)] := by rfl) (hs2 : starEach [b] X.env = [(false, eval b X.env)] := by rfl) :
    PIs X W B Ω tg (.Call (.Name "range" p) [a, b] [] pos) (xRng rng2 gs) :=
  PI.imp (pi_range2 hg hm ha hs hs2) fun σ H Q ⟨H0, O0, O, ρ, S, h⟩ => ⟨H0, O0, O, ρ, S, Good.bind (f := rng2) h fun ds vs H1 e s1 r1 h1 => by
    unfold rng2 at h1
    split at h1
    · rename_i i j
      split at h1
      · rename_i hj
        cases r1 with
        | cons r1 r2 =>
          cases r2 with
          | cons r2 r3 =>
            cases r1; cases r2; cases r3
            exact ⟨i, j, rfl, hj, h1.use fun O' H' _ _ _ => rng_it i (j - i).toNat⟩
      · exact h1.elim
    · exact h1.elim⟩
end
end MV

set_option Elab.async false
set_option linter.all false
set_option maxRecDepth 100000
set_option maxHeartbeats 4000000
namespace MV
open PySem L2

section
variable {X : Cx} {W : WX} {B Ω : List Nat} {k : Nat} {tg iter elt : Expr} {pos p : Pos} {g : TG} {is : List Nat} {bnd : D → Env → Option Env} {gi : Env → R (List D)} {gt : Env → R Bool} {ge : Env → R D}
/-! ### comprehensions -/
/-- what is not raised within -/
def R.in {α : Type} : R α → R α
  | .exc _ => .stuck
  | r => r
def lcL (bnd : D → Env → Option Env) (gt : Env → R Bool) (ge : Env → R D) (ρ : Env) : List D → R (List D)
  | [] => .ok []
  | d :: ds => match bnd d ρ with
    | none => .stuck
    | some ρ' => match gt ρ' with
      | .ok true => match ge ρ' with
        | .ok y => (lcL bnd gt ge ρ ds).bind fun ys => .ok (y :: ys)
        | _ => .stuck
      | .ok false => lcL bnd gt ge ρ ds
      | _ => .stuck
def xLc (ws : List Nat) (gi : Env → R (List D)) (bnd : D → Env → Option Env) (gt : Env → R Bool) (ge : Env → R D) : Env → R D := fun ρ => (gi ρ).bind fun ds => if ds.length ≤ sizeLine then (lcL bnd gt ge (wipeE ρ ws) ds).bind fun ys => .ok (.list ys) else .stuck
def tYesX : Env → R Bool := fun _ => .ok true
def PTsx (X : Cx) (W : WX) (B Ω : List Nat) (ifs : List Expr) (g : Env → R Bool) : Prop := PTs X ifs (tT X.fr X.mg W B Ω g)
theorem PTs_imp {X : Cx} {e : List Expr} {t t' : TT} (h : PTs X e t) (w : ∀ σ H Q, t' σ H Q → t σ H Q) : PTs X e t' := ⟨fun pins s σ H Q I q => h.run pins s σ H Q I (w σ H Q q)⟩
theorem ptsx_nil : PTsx X W B Ω [] tYesX := PTs_imp pts_nil fun σ H Q ⟨H0, O0, O, ρ, S, h⟩ => h.use rfl
theorem ptsx_one {c : Expr} (h : PTx X W B Ω c gt) : PTsx X W B Ω [c] gt := pts_one h
theorem lcL_noexc : ∀ (ds : List D) (ρ : Env) (n : Str), lcL bnd gt ge ρ ds ≠ .exc n
  | [], ρ, n => by simp [lcL]
  | d :: ds, ρ, n => by
    unfold lcL
    split
    · simp
    · split
      · split
        · cases e : lcL bnd gt ge ρ ds with
          | ok ys => simp
          | exc m => exact absurd e (lcL_noexc ds ρ m)
          | stuck => simp
        · simp
      · exact lcL_noexc ds ρ n
      · simp
theorem wipeE_get : ∀ {ws : List Nat} {ρ : Env} {j : Nat} {d : D}, (wipeE ρ ws)[j]? = some (some d) → ρ[j]? = some (some d)
  | [], _, _, _, h => h
  | w :: ws, ρ, j, d, h => by
    unfold wipeE at h
    by_cases hj : w = j
    · subst hj
      by_cases hl : w < (wipeE ρ ws).length
      · rw [List.getElem?_set_self hl] at h; cases h
      · rw [List.getElem?_eq_none (by rw [List.length_set]; omega)] at h; cases h
    · rw [List.getElem?_set_ne hj] at h
      exact wipeE_get h
theorem lc_run {K : Fr} {mg : Str → Option Value} {ws : List Nat} {σ : St} {H : Hp} {Q : VK} (hsub : ∀ i ∈ is, i ∈ ws) (hown : ∀ i ∈ ws, i ∉ Ω)
    (use : TgU K B Ω g is bnd)
    (h : tO K mg W B Ω (xLc ws gi bnd gt ge) σ H Q) : tLc (tIc K mg W B Ω gi) g (tT K mg W0 B Ω gt) (tX K mg W0 B Ω ge) ws σ H Q := by
  obtain ⟨H0, O0, O, ρ, S, h⟩ := h
  refine ⟨H0, O0, O, ρ, S, Good.bind h fun ds J H1 e1 s1 it h1 => ?_⟩
  split at h1
  case isFalse => exact h1.elim
  rename_i hlen
  intro A hA
  have S1 := S.same s1
  cases ez : lcL bnd gt ge (wipeE ρ ws) ds with
  | exc n => exact absurd ez (lcL_noexc ds _ n)
  | stuck => rw [ez] at h1; exact h1.elim
  | ok zs =>
  rw [ez] at h1
  have h1 : Good mg W σ (RelO K O H) H1 (.ok (.list zs)) Q := h1
  have hAO : A ∉ O := fun z => S1.trk A z hA
  have hA0 : H0 A = none := free_back S1.keep hA
  let P : Nat → Hp → Prop := fun i H' => Same H1 H' ∧ Stt K H0 O0 B Ω (A :: O) H' (wipe σ ws) (wipeE ρ ws) ∧ ∃ acc ys rest, H' A = some (.lst acc) ∧ RpAll K (A :: O) H' acc ys ∧ ys.length ≤ i ∧ lcL bnd gt ge (wipeE ρ ws) (ds.drop i) = .ok rest ∧ ys ++ rest = zs
  have p0 : P 0 (upd H1 A (.lst [])) := ⟨same_upd hA, (S1.wipe ws).watch (same_upd hA) hA (by rw [upd_same]; simp), [], [], zs, upd_same, .nil, Nat.le_refl _, by simpa using ez, rfl⟩
  have hno : ∀ (σ' : St), (∀ j ∈ Ω, σ'[j]? = (wipe σ ws)[j]?) → ∀ j ∈ Ω, σ'[j]? = some (some (V.ref A)) → ∀ d, ρ[j]? = some (some d) → False := fun σ' hs j hj e d ed => by
    rw [hs j hj, wipe_get, if_neg (fun z => hown j z hj)] at e
    exact hAO (S1.owR j d ed hj e).1
  refine ⟨fun i m H' => m = ds.length - i ∧ i ≤ ds.length ∧ P i H', ⟨ds.length, by omega, Nat.zero_le _, p0⟩, ?_⟩
  rintro i m H' ⟨rfl, hi, ss, SP, acc, ys, rest, hacc, hys, hyl, hrest, hz⟩
  have stp : Step O H1 (A :: O) H' := ⟨Ge.of_same ss, fun a ha => (List.mem_cons.mp ha).elim (fun z => .inr (z ▸ hA)) .inl⟩
  obtain ⟨go, stop⟩ := it (A :: O) H' ss stp SP.trk
  by_cases hlt : i < ds.length
  · have ed : ds[i]? = some ds[i] := List.getElem?_eq_getElem hlt
    obtain ⟨g1, g2⟩ := go i _ ed
    refine .inr ⟨g1, P (i + 1), fun H2 p => ⟨ds.length - (i + 1), by omega, rfl, hlt, p⟩, fun x H2 y => ?_⟩
    obtain ⟨sy, rx⟩ := g2 x H2 y
    have hdrop : ds.drop i = ds[i] :: ds.drop (i + 1) := List.drop_eq_getElem_cons hlt
    rw [hdrop] at hrest
    unfold lcL at hrest
    split at hrest
    · cases hrest
    rename_i ρ' eb
    refine use (SP.same sy) rx eb fun σ' S' hw ho => ?_
    have hw2 : wipe σ' ws = wipe σ ws := by
      rw [hw ws hsub]
      apply List.ext_getElem?
      intro j
      rw [wipe_get, wipe_get, wipe_length]
      split <;> rfl
    refine ⟨hw2, ?_⟩
    split at hrest
    · -- kept
      rename_i egt
      refine ⟨H0, O0, A :: O, ρ', S', ?_⟩
      rw [egt]
      intro b H3 s3 eb3
      have eb3 : b = true := eb3
      subst eb3
      simp only [if_true]
      split at hrest
      · rename_i yv ege
        refine ⟨H0, O0, A :: O, ρ', S'.same s3, ?_⟩
        rw [ege]
        intro yw H4 s4 r4
        cases er : lcL bnd gt ge (wipeE ρ ws) (ds.drop (i + 1)) with
        | exc n => exact absurd er (lcL_noexc _ _ n)
        | stuck => rw [er] at hrest; cases hrest
        | ok rest2 =>
          rw [er] at hrest
          cases hrest
          have s24 := Same.tr (Same.tr sy s3) s4
          have hacc4 : H4 A = some (.lst acc) := s24 A _ hacc
          have hl := hys.length
          refine ⟨acc, hacc4, by omega, fun a o e => ?_, (SP.same s24).chg List.mem_cons_self hA0 (fun j hj d' eρ e => ?_), acc ++ [yw], ys ++ [yv], rest2, upd_same, ?_, by simp; omega, er, by simpa using hz⟩
          · have : a ≠ A := fun z => by rw [z, hA] at e; cases e
            rw [upd_ne this]
            exact s24 a o (ss a o e)
          · exact hno (wipe σ ws) (fun _ _ => rfl) j hj e d' (wipeE_get eρ)
          · have ge2 : Ge (A :: O) H4 (upd H4 A (.lst (acc ++ [yw]))) := fun a u ha e => by rw [upd_ne (fun z => ha (by rw [z]; exact List.mem_cons_self))]; exact e
            exact ((hys.same s24).ge ge2).append (RpAll.one (r4.ge ge2))
      · cases hrest
    · -- left out
      rename_i egt
      refine ⟨H0, O0, A :: O, ρ', S', ?_⟩
      rw [egt]
      intro b H3 s3 eb3
      have eb3 : b = false := eb3
      subst eb3
      have s23 := Same.tr sy s3
      exact ⟨Same.tr ss s23, SP.same s23, acc, ys, rest, s23 A _ hacc, hys.same s23, by omega, hrest, hz⟩
    · cases hrest
  · have e : i = ds.length := by omega
    subst e
    rw [List.drop_length] at hrest
    cases hrest
    rw [List.append_nil] at hz
    subst hz
    refine .inl ⟨stop, h1 _ H' ss (.inr ⟨A, rfl, free_back s1 hA, acc, hacc, hys⟩)⟩
theorem po_lc {scope : Scope} {own : List (Str × Nat)} {ifs : List Expr} (G : Gd X W k) (hi : PIc X W B Ω tg iter gi) (ok : BlkOk X.N X.env.scope scope own) (u : TgU X.fr B Ω g is bnd) (hsub : is.all ((own.map (·.2)).contains ·) = true) (hown : (own.map (·.2)).all (fun i => !Ω.contains i) = true)
    (hg : ∀ (s : Shared) (H : Hp) (C : Addr) (cl : List (Str × Addr)) (fp : List Addr), PG (X.blk s H scope (compEnvC scope cl C X.env) fp) tg g)
    (ht : ∀ (s : Shared) (H : Hp) (C : Addr) (cl : List (Str × Addr)) (fp : List Addr), PTsx (X.blk s H scope (compEnvC scope cl C X.env) fp) W0 B Ω ifs gt)
    (he : ∀ (s : Shared) (H : Hp) (C : Addr) (cl : List (Str × Addr)) (fp : List Addr), PX (X.blk s H scope (compEnvC scope cl C X.env) fp) W0 B Ω elt ge) (hs : ∀ x, foldedSetIterable iter X.env x = pure x := by intro _; rfl) :
    PO X W B Ω (.ListComp elt [⟨tg, iter, ifs, 0⟩] scope pos) (xLc (own.map (·.2)) gi bnd gt ge) :=
  PE.imp (pe_lc (tt := tT X.fr X.mg W0 B Ω gt) (te := tX X.fr X.mg W0 B Ω ge) G.hc G.nd hi ok hg ht he hs) fun σ H Q h => lc_run (fun i hi => by simpa using List.all_eq_true.mp hsub i hi) (fun i hi => by simpa using List.all_eq_true.mp hown i hi) u h
end
end MV

set_option Elab.async false
set_option linter.all false
set_option maxRecDepth 100000
set_option maxHeartbeats 4000000
namespace MV
open PySem L2

/-! ### statements -/
inductive Out where
  | next (ρ : Env)
  | brk (ρ : Env)
  | cnt (ρ : Env)
  | ret (d : D)
  | exc (n : Str) (ρ : Env)
  | stuck
abbrev YF := Env → Out
section
variable (K : Fr) (mg : Str → Option Value) (W : WX) (fr : Bool) (H0 : Hp) (O0 : List Addr) (B Ωl Ω' : List Nat)
def GoodS (O : List Addr) (H : Hp) (o : Out) (Dn : Ends) : Prop := match o with
  | .next ρ' => ∀ σ' O' H', Step O H O' H' → Stt K H0 O0 B Ω' O' H' σ' ρ' → Dn.nx σ' H'
  | .brk ρ' => ∀ σ' O' H', Step O H O' H' → Stt K H0 O0 B Ωl O' H' σ' ρ' → Dn.bk σ' H'
  | .cnt ρ' => ∀ σ' O' H', Step O H O' H' → Stt K H0 O0 B Ωl O' H' σ' ρ' → Dn.ct σ' H'
  | .ret d => RetG K fr O0 H0 d Dn.rt
  | .exc n ρ' => ∀ C σ' O' H', mg n = some (Value.ref C) → Step O H O' H' → Stt K H0 O0 B [] O' H' σ' ρ' → W (.ref C) none σ' H'
  | .stuck => False
end
def tY (K : Fr) (mg : Str → Option Value) (W : WX) (fr : Bool) (B Ωl Ω Ω' : List Nat) (f : YF) : TS := fun Dn σ H => ∃ H0 O0 O ρ, Stt K H0 O0 B Ω O H σ ρ ∧ GoodS K mg W fr H0 O0 B Ωl Ω' O H (f ρ) Dn
def PY (X : Cx) (W : WX) (fr : Bool) (B Ωl Ω Ω' : List Nat) (st : Stmt) (f : YF) : Prop := PS X st (tY X.fr X.mg W fr B Ωl Ω Ω' f)
def PYs (X : Cx) (W : WX) (fr : Bool) (B Ωl Ω Ω' : List Nat) (st : List Stmt) (f : YF) : Prop := PSs X st (tY X.fr X.mg W fr B Ωl Ω Ω' f)

section
variable {K : Fr} {mg : Str → Option Value} {W : WX} {fr : Bool} {H0 : Hp} {O0 : List Addr} {B Ωl Ω Ω' Ω2 : List Nat} {O O' : List Addr} {H H' : Hp} {o : Out} {Dn : Ends}
theorem GoodS.step (s : Step O H O' H') (h : GoodS K mg W fr H0 O0 B Ωl Ω' O H o Dn) : GoodS K mg W fr H0 O0 B Ωl Ω' O' H' o Dn := by
  cases o with
  | next ρ => exact fun σ' O2 H2 s2 S => h σ' O2 H2 (s.tr s2) S
  | brk ρ => exact fun σ' O2 H2 s2 S => h σ' O2 H2 (s.tr s2) S
  | cnt ρ => exact fun σ' O2 H2 s2 S => h σ' O2 H2 (s.tr s2) S
  | ret d => exact h
  | exc n ρ => exact fun C σ' O2 H2 m s2 S => h C σ' O2 H2 m (s.tr s2) S
  | stuck => exact h
end
def noB (B Ω : List Nat) : Bool := Ω.all fun i => !B.contains i
theorem noB_of {B Ω : List Nat} (h : noB B Ω = true) : ∀ i ∈ Ω, i ∉ B := fun i hi => by simpa using List.all_eq_true.mp h i hi
section
variable {X : Cx} {W : WX} {fr : Bool} {B Ωl Ω Ω' Ω2 : List Nat} {k : Nat} {st : Stmt} {rest : List Stmt} {e c : Expr} {g : Env → R D} {gt : Env → R Bool} {f f' : YF} {pos p : Pos}
/-- an expression's result, then what follows; an exception leaves -/
def yB {α : Type} (r : R α) (ρ : Env) (f : α → Out) : Out := match r with
  | .ok a => f a
  | .exc n => .exc n ρ
  | .stuck => .stuck
@[simp] theorem yB_ok {α : Type} (a : α) (ρ : Env) (f : α → Out) : yB (.ok a) ρ f = f a := rfl
@[simp] theorem yB_exc {α : Type} (n : Str) (ρ : Env) (f : α → Out) : yB (.exc n) ρ f = .exc n ρ := rfl
@[simp] theorem yB_stuck {α : Type} (ρ : Env) (f : α → Out) : yB .stuck ρ f = .stuck := rfl
theorem goodB {α β : Type} {Rel : Hp → β → α → Prop} {H0 : Hp} {O0 O : List Addr} {H : Hp} {σ : St} {ρ : Env} {r : R α} {ff : α → Out} {Dn : Ends} {Q : β → Hp → Prop} (hB : noB B Ω = true) (S : Stt X.fr H0 O0 B Ω O H σ ρ) (h : GoodS X.fr X.mg W fr H0 O0 B Ωl Ω' O H (yB r ρ ff) Dn)
    (k : ∀ d v H1, r = .ok d → Same H H1 → Rel H1 v d → GoodS X.fr X.mg W fr H0 O0 B Ωl Ω' O H1 (ff d) Dn → Q v H1) : Good X.mg W σ Rel H r Q := by
  cases r with
  | ok d => exact fun v H1 s rr => k d v H1 rfl s rr (GoodS.step (Step.of_same s) h)
  | exc n =>
    intro C H1 m s
    obtain ⟨O', s', S'⟩ := (S.same s).giveAll (noB_of hB)
    exact h C σ O' H1 m ((Step.of_same s).tr s') S'
  | stuck => exact h
def ySeq (f g : YF) : YF := fun ρ => match f ρ with
  | .next ρ' => g ρ'
  | o => o
def yNil : YF := .next
theorem pys_nil : PYs X W fr B Ωl Ω Ω [] yNil := PSs.imp pss_nil fun Dn σ H ⟨H0, O0, O, ρ, S, h⟩ => h σ O H Step.refl S
theorem pys_cons (h1 : PY X W fr B Ωl Ω Ω2 st f) (h2 : PYs X W fr B Ωl Ω2 Ω' rest f') : PYs X W fr B Ωl Ω Ω' (st :: rest) (ySeq f f') := PSs.imp (pss_cons h1 h2) fun Dn σ H ⟨H0, O0, O, ρ, S, h⟩ => by
  refine ⟨H0, O0, O, ρ, S, ?_⟩
  unfold ySeq at h
  cases q : f ρ with
  | next ρ' => rw [q] at h; exact fun σ' O' H' s S' => ⟨H0, O0, O', ρ', S', h.step s⟩
  | brk ρ' => rw [q] at h; exact h
  | cnt ρ' => rw [q] at h; exact h
  | ret d => rw [q] at h; exact h
  | exc n ρ' => rw [q] at h; exact h
  | stuck => rw [q] at h; exact h
theorem pys_one (h1 : PY X W fr B Ωl Ω Ω' st f) : PYs X W fr B Ωl Ω Ω' [st] f := pss_one h1
/-- an own slot is given up ahead of a statement -/
theorem pys_give (i : Nat) (hB : B.contains i = false) (h : PYs X W fr B Ωl (Ω.filter (· ≠ i)) Ω' rest f) : PYs X W fr B Ωl Ω Ω' rest f := PSs.imp h fun Dn σ H ⟨H0, O0, O, ρ, S, h⟩ => by
  obtain ⟨O', s, S'⟩ := S.give i (by simpa using hB)
  exact ⟨H0, O0, O', ρ, S', h.step s⟩
theorem py_give (i : Nat) (hB : B.contains i = false) (h : PY X W fr B Ωl (Ω.filter (· ≠ i)) Ω' st f) : PY X W fr B Ωl Ω Ω' st f := PS.imp h fun Dn σ H ⟨H0, O0, O, ρ, S, h⟩ => by
  obtain ⟨O', s, S'⟩ := S.give i (by simpa using hB)
  exact ⟨H0, O0, O', ρ, S', h.step s⟩
/-- .. behind it -/
theorem pys_lose (i : Nat) (hB : B.contains i = false) (h : PYs X W fr B Ωl Ω Ω' rest f) : PYs X W fr B Ωl Ω (Ω'.filter (· ≠ i)) rest f := PSs.imp h fun Dn σ H ⟨H0, O0, O, ρ, S, h⟩ => by
  refine ⟨H0, O0, O, ρ, S, ?_⟩
  cases q : f ρ with
  | next ρ' =>
    rw [q] at h
    intro σ' O' H' s S'
    obtain ⟨O2, s2, S2⟩ := S'.give i (by simpa using hB)
    exact h σ' O2 H' (s.tr s2) S2
  | brk ρ' => rw [q] at h; exact h
  | cnt ρ' => rw [q] at h; exact h
  | ret d => rw [q] at h; exact h
  | exc n ρ' => rw [q] at h; exact h
  | stuck => rw [q] at h; exact h
theorem pys_giveE (i : Nat) {Ω1 : List Nat} (hB : B.contains i = false) (h : PYs X W fr B Ωl Ω1 Ω' rest f) (eΩ : Ω.filter (· ≠ i) = Ω1 := by rfl) : PYs X W fr B Ωl Ω Ω' rest f := pys_give i hB (eΩ ▸ h)
theorem py_giveE (i : Nat) {Ω1 : List Nat} (hB : B.contains i = false) (h : PY X W fr B Ωl Ω1 Ω' st f) (eΩ : Ω.filter (· ≠ i) = Ω1 := by rfl) : PY X W fr B Ωl Ω Ω' st f := py_give i hB (eΩ ▸ h)
theorem pys_loseE (i : Nat) {Ω1 : List Nat} (hB : B.contains i = false) (h : PYs X W fr B Ωl Ω Ω1 rest f) (eΩ : Ω1.filter (· ≠ i) = Ω' := by rfl) : PYs X W fr B Ωl Ω Ω' rest f := eΩ ▸ pys_lose i hB h
theorem pys_eq {Ω1 : List Nat} (h : PYs X W fr B Ωl Ω Ω1 rest f) (e : Ω1 = Ω' := by rfl) : PYs X W fr B Ωl Ω Ω' rest f := e ▸ h
def sameSet (a b : List Nat) : Bool := a.all (b.contains ·) && b.all (a.contains ·)
theorem Stt.perm {K : Fr} {H0 : Hp} {O0 O : List Addr} {H : Hp} {σ : St} {ρ : Env} (S : Stt K H0 O0 B Ω O H σ ρ) (e : sameSet Ω Ω' = true) : Stt K H0 O0 B Ω' O H σ ρ := by
  unfold sameSet at e
  simp only [Bool.and_eq_true, List.all_eq_true, List.contains_iff_mem] at e
  obtain ⟨e1, e2⟩ := e
  exact ⟨S.keep, S.trk0, S.sub, S.trk, fun i d h1 h2 h3 => S.fz i d h1 (fun z => h2 (e1 i z)) h3, fun i d h1 h2 h3 => S.bor i d h1 (fun z => h2 (e1 i z)) h3, fun i d h1 h2 => S.ow i d h1 (e2 i h2), fun i hi j hj => S.dist i (e2 i hi) j (e2 j hj), S.len⟩
theorem py_perm {Ω1 : List Nat} (h : PY X W fr B Ωl Ω Ω1 st f) (e : sameSet Ω1 Ω' = true := by rfl) : PY X W fr B Ωl Ω Ω' st f := PS.imp h fun Dn σ H ⟨H0, O0, O, ρ, S, h⟩ => by
  refine ⟨H0, O0, O, ρ, S, ?_⟩
  cases q : f ρ with
  | next ρ' => rw [q] at h; exact fun σ' O' H' s S' => h σ' O' H' s (S'.perm e)
  | brk ρ' => rw [q] at h; exact h
  | cnt ρ' => rw [q] at h; exact h
  | ret d => rw [q] at h; exact h
  | exc n ρ' => rw [q] at h; exact h
  | stuck => rw [q] at h; exact h
def yPass : YF := .next
def yBrk : YF := .brk
def yCnt : YF := .cnt
theorem py_pass : PY X W fr B Ωl Ω Ω (.Pass pos) yPass := PS.imp ps_pass fun Dn σ H ⟨H0, O0, O, ρ, S, h⟩ => h σ O H Step.refl S
theorem py_break : PY X W fr B Ω Ω Ω' (.Break pos) yBrk := PS.imp ps_break fun Dn σ H ⟨H0, O0, O, ρ, S, h⟩ => h σ O H Step.refl S
theorem py_continue : PY X W fr B Ω Ω Ω' (.Continue pos) yCnt := PS.imp ps_continue fun Dn σ H ⟨H0, O0, O, ρ, S, h⟩ => h σ O H Step.refl S
def ySet (i : Nat) (g : Env → R D) : YF := fun ρ => yB (g ρ) ρ fun d => .next (ρ.set i (some d))
theorem py_set {i : Nat} {x : Str} {pos' : Pos} (G : Gd X W k) (hB : noB B Ω = true) (hb : B.contains i = false) (hi : X.N[i]? = some x) (hx : Loc X.env.scope x) (he : PX X W B Ω e g) (hs : swapsWith e (some (.Name x pos')) pos.line X.env = pure false := by rfl)
    (hf : X.fn x = true ∨ X.env.scope.names.lookup x = some .local := by first | exact .inl rfl | exact .inr rfl | assumption) (eΩ : Ω.filter (· ≠ i) = Ω' := by rfl) : PY X W fr B Ωl Ω Ω' (.Assign [.Name x pos'] e pos) (ySet i g) :=
  eΩ ▸ PS.imp (ps_set G.nd hi hx he hs hf) fun Dn σ H ⟨H0, O0, O, ρ, S, h⟩ => ⟨H0, O0, O, ρ, S, goodB (ff := fun d => .next (ρ.set i (some d))) hB S h fun d v H1 e1 s1 r1 h1 => h1 _ O H1 Step.refl ((S.same s1).set r1 (by simpa using hb))⟩
theorem Stt.setA {K : Fr} {H0 : Hp} {O0 O : List Addr} {H : Hp} {σ : St} {ρ : Env} {i : Nat} {v : V} {d : D} (S : Stt K H0 O0 B Ω O H σ ρ) (ha : atomD d = true) (r : Rp K O H v d) (hB : i ∉ B) : Stt K H0 O0 B (i :: Ω.filter (· ≠ i)) O H (σ.set i (some v)) (ρ.set i (some d)) := by
  have inΩ : ∀ {j}, j ∈ i :: Ω.filter (· ≠ i) → i ≠ j → j ∈ Ω := fun {j} h hj => by
    rcases List.mem_cons.mp h with z | z
    · exact absurd z.symm hj
    · exact (List.mem_filter.mp z).1
  refine ⟨S.keep, S.trk0, S.sub, S.trk, fun j e h1 h2 h3 => ?_, fun j e h1 h2 h3 => ?_, fun j e h1 h2 => ?_, ?_, by simp [S.len]⟩
  · have hj : i ≠ j := fun z => h2 (z ▸ List.mem_cons_self)
    rw [List.getElem?_set_ne hj] at h1
    rw [List.getElem?_set_ne hj]
    exact S.fz j e h1 (fun z => h2 (List.mem_cons_of_mem _ (List.mem_filter.mpr ⟨z, by simpa using Ne.symm hj⟩))) h3
  · have hj : i ≠ j := fun z => hB (z ▸ h3)
    rw [List.getElem?_set_ne hj] at h1
    rw [List.getElem?_set_ne hj]
    exact S.bor j e h1 (fun z => h2 (List.mem_cons_of_mem _ (List.mem_filter.mpr ⟨z, by simpa using Ne.symm hj⟩))) h3
  · by_cases hj : i = j
    · subst hj
      obtain ⟨hl, _⟩ := List.getElem?_eq_some_iff.mp h1
      rw [List.getElem?_set_self (by simpa using hl)] at h1
      cases h1
      exact .inl ⟨ha, v, List.getElem?_set_self (by rw [S.len]; simpa using hl), r⟩
    · rw [List.getElem?_set_ne hj] at h1
      rw [List.getElem?_set_ne hj]
      exact S.ow j e h1 (inΩ h2 hj)
  · intro j hj k hk hne q d' e' h1 h2 h3
    by_cases a1 : i = j
    · subst a1
      obtain ⟨hl, _⟩ := List.getElem?_eq_some_iff.mp h1
      rw [List.getElem?_set_self (by rw [S.len]; simpa using hl)] at h3
      cases h3
      exact (r.noref ha).elim
    · rw [List.getElem?_set_ne a1] at h1 h3
      by_cases a2 : i = k
      · subst a2
        obtain ⟨hl, _⟩ := List.getElem?_eq_some_iff.mp h2
        rw [List.getElem?_set_self (by rw [S.len]; simpa using hl)]
        intro z
        cases z
        exact (r.noref ha).elim
      · rw [List.getElem?_set_ne a2] at h2
        rw [List.getElem?_set_ne a2]
        exact S.dist j (inΩ hj a1) k (inΩ hk a2) hne q _ _ h1 h2 h3
theorem own_setO {K : Fr} {H0 : Hp} {O0 O : List Addr} {H H1 : Hp} {σ : St} {ρ : Env} {i : Nat} {v : V} {d : D} (S : Stt K H0 O0 B Ω O H σ ρ) (s : Same H H1) (r : RelO K O H H1 v d) (hb : B.contains i = false) :
    ∃ O', Step O H O' H1 ∧ Stt K H0 O0 B (i :: Ω.filter (· ≠ i)) O' H1 (σ.set i (some v)) (ρ.set i (some d)) := by
  rcases r with ⟨ha, r⟩ | ⟨p, rfl, hp, w⟩
  · exact ⟨O, Step.of_same s, (S.same s).setA ha r (by simpa using hb)⟩
  exact ⟨p :: O, ⟨Ge.of_same s, fun a ha => (List.mem_cons.mp ha).elim (fun z => .inr (by rw [z]; exact hp)) .inl⟩, S.setO s hp w (by simpa using hb)⟩
theorem py_setO {i : Nat} {x : Str} {pos' : Pos} (G : Gd X W k) (hB : noB B Ω = true) (hb : B.contains i = false) (hi : X.N[i]? = some x) (hx : Loc X.env.scope x) (he : PO X W B Ω e g) (hs : swapsWith e (some (.Name x pos')) pos.line X.env = pure false := by rfl)
    (hf : X.fn x = true ∨ X.env.scope.names.lookup x = some .local := by first | exact .inl rfl | exact .inr rfl | assumption) (eΩ : i :: Ω.filter (· ≠ i) = Ω' := by rfl) : PY X W fr B Ωl Ω Ω' (.Assign [.Name x pos'] e pos) (ySet i g) :=
  eΩ ▸ PS.imp (ps_set G.nd hi hx he hs hf) fun Dn σ H ⟨H0, O0, O, ρ, S, h⟩ => ⟨H0, O0, O, ρ, S, by
    unfold ySet at h
    cases q : g ρ with
    | ok d =>
      rw [q] at h
      intro v H1 s1 r1
      obtain ⟨O', st, S'⟩ := own_setO (i := i) S s1 r1 hb
      exact h _ O' H1 st S'
    | exc n =>
      rw [q] at h
      intro C H1 m s
      obtain ⟨O', s', S'⟩ := (S.same s).giveAll (noB_of hB)
      exact h C σ O' H1 m ((Step.of_same s).tr s') S'
    | stuck => rw [q] at h; exact h⟩
/-- name = [..] where the name is no cell -/
theorem py_setLc {i : Nat} {y : Str} {py spos : Pos} {elt tg iter : Expr} {ifs : List Expr} {scope : Scope} {own : List (Str × Nat)} {gi : Env → R (List D)} {ge : Env → R D} {tgg : TG} {is : List Nat} {bnd : D → Env → Option Env} (G : Gd X W k) (hB : noB B Ω = true) (hb : B.contains i = false)
    (hy : X.N[i]? = some y) (hyl : X.env.scope.names.lookup y = some .local) (hsw : swapsWith (.ListComp elt [⟨tg, iter, ifs, 0⟩] scope pos) (some (.Name y py)) spos.line X.env = pure true)
    (hi : PIc X W B Ω tg iter gi) (ok : BlkOk X.N X.env.scope scope own) (u : TgU X.fr B Ω tgg is bnd) (hsub : is.all ((own.map (·.2)).contains ·) = true) (hown : (own.map (·.2)).all (fun i => !Ω.contains i) = true)
    (hg : ∀ (s : Shared) (H : Hp) (C : Addr) (cl : List (Str × Addr)) (fp : List Addr), PG (X.blk s H scope (compEnvC scope cl C X.env) fp) tg tgg)
    (ht : ∀ (s : Shared) (H : Hp) (C : Addr) (cl : List (Str × Addr)) (fp : List Addr), PTsx (X.blk s H scope (compEnvC scope cl C X.env) fp) W0 B Ω ifs gt)
    (he : ∀ (s : Shared) (H : Hp) (C : Addr) (cl : List (Str × Addr)) (fp : List Addr), PX (X.blk s H scope (compEnvC scope cl C X.env) fp) W0 B Ω elt ge) (eΩ : i :: Ω.filter (· ≠ i) = Ω' := by rfl) (hs : ∀ x, foldedSetIterable iter X.env x = pure x := by intro _; rfl) :
    PY X W fr B Ωl Ω Ω' (.Assign [.Name y py] (.ListComp elt [⟨tg, iter, ifs, 0⟩] scope pos) spos) (ySet i (xLc (own.map (·.2)) gi bnd gt ge)) :=
  eΩ ▸ PS.imp (ps_setLc (tt := tT X.fr X.mg W0 B Ω gt) (te := tX X.fr X.mg W0 B Ω ge) G.hc G.nd hy hyl hsw hi ok hg ht he hs) fun Dn σ H ⟨H0, O0, O, ρ, S, h⟩ => by
    show tLc _ _ _ _ _ σ H _
    refine lc_run (fun i hi => by simpa using List.all_eq_true.mp hsub i hi) (fun i hi => by simpa using List.all_eq_true.mp hown i hi) u ⟨H0, O0, O, ρ, S, ?_⟩
    unfold ySet at h
    cases q : xLc (own.map (·.2)) gi bnd gt ge ρ with
    | ok d =>
      rw [q] at h
      intro v H1 s1 r1
      obtain ⟨O', st, S'⟩ := own_setO (i := i) S s1 r1 hb
      exact h _ O' H1 st S'
    | exc n =>
      rw [q] at h
      intro C H1 m s
      obtain ⟨O', s', S'⟩ := (S.same s).giveAll (noB_of hB)
      exact h C σ O' H1 m ((Step.of_same s).tr s') S'
    | stuck => rw [q] at h; exact h
/-- x = y where y is own and never asked again -/
def yMove (i j : Nat) : YF := fun ρ => match ρ[j]? with
  | some (some d) => if atomD d = true then .stuck else .next ((ρ.set j none).set i (some d))
  | _ => .stuck
theorem py_move {i j : Nat} {x y : Str} {pos' py : Pos} (G : Gd X W k) (hj : Ω.contains j = true) (hb : B.contains i = false) (hbj : B.contains j = false) (hij : i ≠ j := by decide) (hi : X.N[i]? = some x) (hx : Loc X.env.scope x) (hjn : X.N[j]? = some y) (hv : Vis X.env.scope y)
    (hs : swapsWith (.Name y py) (some (.Name x pos')) pos.line X.env = pure false := by rfl) (hd : (y == ("__debug__" : Str)) = false := by decide) (hcd : (y == ("__classdict__" : Str)) = false := by decide)
    (hf : X.fn x = true ∨ X.env.scope.names.lookup x = some .local := by first | exact .inl rfl | exact .inr rfl | assumption) (eΩ : i :: (Ω.filter (· ≠ i)).filter (· ≠ j) = Ω' := by rfl) : PY X W fr B Ωl Ω Ω' (.Assign [.Name x pos'] (.Name y py) pos) (yMove i j) :=
  eΩ ▸ PS.imp (ps_set G.nd hi hx (pe_var hjn hv hd hcd) hs hf) fun Dn σ H ⟨H0, O0, O, ρ, S, h⟩ => by
    have hj : j ∈ Ω := by simpa using hj
    have hb : i ∉ B := by simpa using hb
    have hbj : j ∉ B := by simpa using hbj
    unfold yMove at h
    cases er : ρ[j]? with
    | none => rw [er] at h; exact h.elim
    | some o =>
      cases o with
      | none => rw [er] at h; exact h.elim
      | some d =>
        rw [er] at h
        simp only at h
        split at h
        · exact h.elim
        rename_i hat
        obtain ⟨q, e1, e2, e3, e4⟩ := S.owL j d er hj (by simpa using hat)
        refine ⟨.ref q, e1, h _ O H Step.refl ?_⟩
        have m1 : ∀ {m : Nat} {x : D}, ((ρ.set j none).set i (some d))[m]? = some (some x) → m ≠ i → m ≠ j ∧ ρ[m]? = some (some x) := fun {m x} hh hmi => by
          rw [List.getElem?_set_ne (Ne.symm hmi)] at hh
          by_cases hm : j = m
          · subst hm
            obtain ⟨hl, _⟩ := List.getElem?_eq_some_iff.mp er
            rw [List.getElem?_set_self hl] at hh; cases hh
          · rw [List.getElem?_set_ne hm] at hh
            exact ⟨Ne.symm hm, hh⟩
        have mΩ : ∀ m, m ∈ i :: (Ω.filter (· ≠ i)).filter (· ≠ j) → m ≠ i → m ∈ Ω := fun m hm hne => by
          rcases List.mem_cons.mp hm with z | z
          · exact absurd z hne
          · exact (List.mem_filter.mp (List.mem_filter.mp z).1).1
        have nΩ : ∀ m, m ∉ i :: (Ω.filter (· ≠ i)).filter (· ≠ j) → m ≠ j → m ≠ i ∧ m ∉ Ω := fun m hm hne => by
          have h1 : m ≠ i := fun z => hm (by rw [z]; exact List.mem_cons_self)
          exact ⟨h1, fun z => hm (List.mem_cons_of_mem _ (List.mem_filter.mpr ⟨List.mem_filter.mpr ⟨z, by simpa using h1⟩, by simpa using hne⟩))⟩
        have iself : ∀ {x : D}, ((ρ.set j none).set i (some d))[i]? = some (some x) → x = d ∧ i < σ.length := fun {x} hh => by
          obtain ⟨hl, _⟩ := List.getElem?_eq_some_iff.mp hh
          rw [List.getElem?_set_self (by simpa using hl)] at hh
          cases hh
          exact ⟨rfl, by rw [S.len]; simpa using hl⟩
        refine ⟨S.keep, S.trk0, S.sub, S.trk, fun m x h1 h2 h3 => ?_, fun m x h1 h2 h3 => ?_, fun m x h1 h2 => ?_, fun a ha b hb' hne pp da db h1 h2 h3 => ?_, by simp [S.len]⟩
        · have hmi : m ≠ i := fun z => h2 (by rw [z]; exact List.mem_cons_self)
          obtain ⟨hmj, h1⟩ := m1 h1 hmi
          obtain ⟨_, hmΩ⟩ := nΩ m h2 hmj
          rw [List.getElem?_set_ne (Ne.symm hmi)]
          exact S.fz m x h1 hmΩ h3
        · have hmi : m ≠ i := fun z => hb (z ▸ h3)
          obtain ⟨hmj, h1⟩ := m1 h1 hmi
          obtain ⟨_, hmΩ⟩ := nΩ m h2 hmj
          rw [List.getElem?_set_ne (Ne.symm hmi)]
          exact S.bor m x h1 hmΩ h3
        · by_cases hmi : m = i
          · subst hmi
            obtain ⟨rfl, hl⟩ := iself h1
            exact .inr ⟨q, List.getElem?_set_self hl, e2, e3, e4⟩
          · obtain ⟨hmj, h1⟩ := m1 h1 hmi
            rw [List.getElem?_set_ne (Ne.symm hmi)]
            exact S.ow m x h1 (mΩ m h2 hmi)
        · by_cases hai : a = i
          · subst hai
            have hbi : b ≠ a := Ne.symm hne
            obtain ⟨_, hl⟩ := iself h1
            rw [List.getElem?_set_self hl] at h3
            cases h3
            obtain ⟨hbj', h2⟩ := m1 h2 hbi
            rw [List.getElem?_set_ne (Ne.symm hbi)]
            exact S.dist j hj b (mΩ b hb' hbi) (Ne.symm hbj') _ _ _ er h2 e1
          · obtain ⟨haj, k1⟩ := m1 h1 hai
            rw [List.getElem?_set_ne (Ne.symm hai)] at h3
            by_cases hbi : b = i
            · subst hbi
              obtain ⟨_, hl⟩ := iself h2
              rw [List.getElem?_set_self hl]
              intro z; cases z
              exact S.dist a (mΩ a ha hai) j hj haj _ _ _ k1 er h3 e1
            · obtain ⟨_, k2⟩ := m1 h2 hbi
              rw [List.getElem?_set_ne (Ne.symm hbi)]
              exact S.dist a (mΩ a ha hai) b (mΩ b hb' hbi) hne _ _ _ k1 k2 h3
/-- an expression whose value is dropped -/
def yEx (g : Env → R D) : YF := fun ρ => yB (g ρ) ρ fun _ => .next ρ
theorem py_ex (hB : noB B Ω = true) (he : PX X W B Ω e g) (hs : swapsWith e none pos.line X.env = pure false := by rfl) : PY X W fr B Ωl Ω Ω (.Expr e pos) (yEx g) :=
  PS.imp (ps_expr he hs) fun Dn σ H ⟨H0, O0, O, ρ, S, h⟩ => ⟨H0, O0, O, ρ, S, goodB (ff := fun _ => .next ρ) hB S h fun d v H1 e1 s1 r1 h1 => h1 _ O H1 Step.refl (S.same s1)⟩
def yRet (g : Env → R D) : YF := fun ρ => yB (g ρ) ρ .ret
theorem py_ret (hB : noB B Ω = true) (he : PX X W B Ω e g) : PY X W false B Ωl Ω Ω' (.Return (some e) pos) (yRet g) :=
  PS.imp (ps_ret he) fun Dn σ H ⟨H0, O0, O, ρ, S, h⟩ => ⟨H0, O0, O, ρ, S, goodB (ff := .ret) hB S h fun d v H1 e1 s1 r1 h1 => by
    have h1 : RetG X.fr false O0 H0 d Dn.rt := h1
    exact h1 v H1 (Same.tr S.keep s1) (r1.sub S.sub)⟩
theorem py_retO (hB : noB B Ω = true) (he : PO X W B Ω e g) : PY X W true B Ωl Ω Ω' (.Return (some e) pos) (yRet g) :=
  PS.imp (ps_ret he) fun Dn σ H ⟨H0, O0, O, ρ, S, h⟩ => ⟨H0, O0, O, ρ, S, goodB (ff := .ret) hB S h fun d v H1 e1 s1 r1 h1 => by
    have h1 : RetG X.fr true O0 H0 d Dn.rt := h1
    rcases r1 with ⟨ha, r1⟩ | ⟨p, rfl, hp, w⟩
    · exact h1 v H1 (Same.tr S.keep s1) (.inl ⟨ha, r1.sub S.sub⟩)
    exact h1 _ H1 (Same.tr S.keep s1) (.inr ⟨p, rfl, free_back S.keep hp, w.sub fun a ha => (List.mem_cons.mp ha).elim (fun z => by rw [z]; exact List.mem_cons_self) fun z => List.mem_cons_of_mem _ (S.sub a z)⟩)⟩
/-- an own name is handed back -/
theorem py_retV {i : Nat} {x : Str} {pos' : Pos} (ho : Ω.contains i = true) (hN : X.N[i]? = some x) (hv : Vis X.env.scope x) (hd : (x == ("__debug__" : Str)) = false := by decide) (hcd : (x == ("__classdict__" : Str)) = false := by decide) : PY X W true B Ωl Ω Ω' (.Return (some (.Name x pos')) pos) (yRet (xVar i)) :=
  PS.imp (ps_ret (pe_var hN hv hd hcd)) fun Dn σ H ⟨H0, O0, O, ρ, S, h⟩ => by
    have ho : i ∈ Ω := by simpa using ho
    unfold yRet xVar at h
    cases er : ρ[i]? with
    | none => rw [er] at h; exact h.elim
    | some o =>
      cases o with
      | none => rw [er] at h; exact h.elim
      | some d =>
        rw [er] at h
        have h : RetG X.fr true O0 H0 d Dn.rt := h
        rcases S.ow i d er ho with ⟨ha, v, e', r⟩ | ⟨q, e1, e2, e3, e4⟩
        · exact ⟨v, e', h v H S.keep (.inl ⟨ha, r.sub S.sub⟩)⟩
        exact ⟨.ref q, e1, h _ H S.keep (.inr ⟨q, rfl, e3, e4.sub fun a ha => (List.mem_cons.mp ha).elim (fun z => by rw [z]; exact e2) (S.sub a)⟩)⟩
def yRetN : YF := fun _ => .ret .none
theorem py_retN : PY X W false B Ωl Ω Ω' (.Return none pos) yRetN := PS.imp ps_retN fun Dn σ H ⟨H0, O0, O, ρ, S, h⟩ => by
  have h : RetG X.fr false O0 H0 .none Dn.rt := h
  exact h _ H S.keep .non
def yIf (gt : Env → R Bool) (f f' : YF) : YF := fun ρ => yB (gt ρ) ρ fun c => if c = true then f ρ else f' ρ
theorem py_if {a b : List Stmt} (hB : noB B Ω = true) (hc : PTx X W B Ω c gt) (ha : PYs X W fr B Ωl Ω Ω' a f) (hb : PYs X W fr B Ωl Ω Ω' b f') : PY X W fr B Ωl Ω Ω' (.If c a b pos) (yIf gt f f') :=
  PS.imp (ps_if hc ha hb) fun Dn σ H ⟨H0, O0, O, ρ, S, h⟩ => ⟨H0, O0, O, ρ, S, goodB (ff := fun c => if c = true then f ρ else f' ρ) hB S h fun d v H1 e1 s1 r1 h1 => by
    have r1 : v = d := r1
    subst r1
    cases v with
    | true => exact ⟨H0, O0, O, ρ, S.same s1, h1⟩
    | false => exact ⟨H0, O0, O, ρ, S.same s1, h1⟩⟩
/-- a, b = e -/
def yUnp (bnd : D → Env → Option Env) (g : Env → R D) : YF := fun ρ => yB (g ρ) ρ fun d => match bnd d ρ with
  | some ρ' => .next ρ'
  | none => .stuck
theorem py_unp {tgg : TG} {is : List Nat} {bnd : D → Env → Option Env} (hB : noB B Ω = true) (u : TgU X.fr B Ω tgg is bnd) (hp : PS X st (tAsg (tX X.fr X.mg W B Ω g) tgg)) :
    PY X W fr B Ωl Ω Ω st (yUnp bnd g) :=
  PS.imp hp fun Dn σ H ⟨H0, O0, O, ρ, S, h⟩ => ⟨H0, O0, O, ρ, S, goodB (ff := fun d => match bnd d ρ with | some ρ' => .next ρ' | none => .stuck) hB S h fun d v H1 e1 s1 r1 h1 => by
    cases q : bnd d ρ with
    | none => rw [q] at h1; exact h1.elim
    | some ρ' =>
      rw [q] at h1
      exact u (S.same s1) r1 q fun σ' S' _ _ => h1 σ' O H1 Step.refl S'⟩
/-! ### loops -/
def forL (bnd : D → Env → Option Env) (body : YF) : List D → YF
  | [], ρ => .next ρ
  | d :: ds, ρ => match bnd d ρ with
    | none => .stuck
    | some ρ' => match body ρ' with
      | .next ρ2 => forL bnd body ds ρ2
      | .cnt ρ2 => forL bnd body ds ρ2
      | .brk ρ2 => .next ρ2
      | o => o
def yFor (gi : Env → R (List D)) (bnd : D → Env → Option Env) (body : YF) : YF := fun ρ => yB (gi ρ) ρ fun ds => forL bnd body ds ρ
theorem py_for {tg iter : Expr} {body : List Stmt} {gi : Env → R (List D)} {tgg : TG} {is : List Nat} {bnd : D → Env → Option Env} (G : Gd X W k) (hB : noB B Ω = true) (hi : PIs X W B Ω tg iter gi) (u : TgU X.fr B Ω tgg is bnd) (hg : PG X tg tgg) (hb : PYs X W fr B Ω Ω Ω body f)
    (hs : ∀ x, foldedSetIterable iter X.env x = pure x := by intro _; rfl) : PY X W fr B Ωl Ω Ω (.For tg iter body [] pos) (yFor gi bnd f) :=
  PS.imp (ps_for G.hp G.hc hi hg hb hs) fun Dn σ H ⟨H0, O0, O, ρ, S, h⟩ => by
    refine ⟨H0, O0, O, ρ, S, goodB (ff := fun ds => forL bnd f ds ρ) hB S h fun ds J H1 e1 s1 it h1 => ?_⟩
    have S1 := S.same s1
    let P : Nat → St → Hp → Prop := fun i σ' H' => ∃ O' ρ', Step O H1 O' H' ∧ Stt X.fr H0 O0 B Ω O' H' σ' ρ' ∧ GoodS X.fr X.mg W fr H0 O0 B Ωl Ω O' H' (forL bnd f (ds.drop i) ρ') Dn
    refine ⟨fun i m σ' H' => m = ds.length - i ∧ i ≤ ds.length ∧ P i σ' H', ⟨ds.length, by omega, Nat.zero_le _, O, ρ, Step.refl, S1, by simpa using h1⟩, ?_⟩
    rintro i m σ' H' ⟨rfl, hi, O', ρ', st, S', h'⟩
    obtain ⟨go, stop⟩ := it O' H' S'.keep st S'.trk
    by_cases hlt : i < ds.length
    · have ed : ds[i]? = some ds[i] := List.getElem?_eq_getElem hlt
      obtain ⟨g1, g2⟩ := go i _ ed
      refine .inr ⟨g1, P (i + 1), fun σ2 H2 q => ⟨ds.length - (i + 1), by omega, rfl, hlt, q⟩, fun x H2 y => ?_⟩
      obtain ⟨sy, rx⟩ := g2 x H2 y
      have S2 := S'.same sy
      have h2 := GoodS.step (Step.of_same sy) h'
      have st2 := st.tr (Step.of_same (O := O') sy)
      rw [List.drop_eq_getElem_cons hlt] at h2
      unfold forL at h2
      split at h2
      · exact h2.elim
      rename_i ρ2 eb
      refine u S2 rx eb fun σ3 S3 _ _ => ⟨H0, O0, O', ρ2, S3, ?_⟩
      cases q : f ρ2 with
      | next ρ3 => rw [q] at h2; exact fun σ4 O4 H4 s4 S4 => ⟨O4, ρ3, st2.tr s4, S4, h2.step s4⟩
      | cnt ρ3 => rw [q] at h2; exact fun σ4 O4 H4 s4 S4 => ⟨O4, ρ3, st2.tr s4, S4, h2.step s4⟩
      | brk ρ3 => rw [q] at h2; exact fun σ4 O4 H4 s4 S4 => h2 σ4 O4 H4 s4 S4
      | ret d => rw [q] at h2; exact h2
      | exc n ρ3 => rw [q] at h2; exact h2
      | stuck => rw [q] at h2; exact h2
    · have e : i = ds.length := by omega
      subst e
      rw [List.drop_length] at h'
      exact .inl ⟨stop, h' σ' O' H' Step.refl S'⟩
def whL (gt : Env → R Bool) (body : YF) : Nat → YF
  | 0, _ => .stuck
  | n + 1, ρ => yB (gt ρ) ρ fun c => if c = true then (match body ρ with
      | .next ρ2 => whL gt body n ρ2
      | .cnt ρ2 => whL gt body n ρ2
      | .brk ρ2 => .next ρ2
      | o => o) else .next ρ
def yWh (fu : Env → Nat) (gt : Env → R Bool) (body : YF) : YF := fun ρ => whL gt body (fu ρ) ρ
theorem py_while {body : List Stmt} (fu : Env → Nat) (G : Gd X W k) (hB : noB B Ω = true) (hc : PTx X W B Ω c gt) (hb : PYs X W fr B Ω Ω Ω body f) : PY X W fr B Ωl Ω Ω (.While c body [] pos) (yWh fu gt f) :=
  PS.imp (ps_while G.hp hc hb) fun Dn σ H ⟨H0, O0, O, ρ, S, h⟩ => by
    refine ⟨fun m σ' H' => ∃ O' ρ', Step O H O' H' ∧ Stt X.fr H0 O0 B Ω O' H' σ' ρ' ∧ GoodS X.fr X.mg W fr H0 O0 B Ωl Ω O' H' (whL gt f m ρ') Dn, ⟨fu ρ, O, ρ, Step.refl, S, h⟩, ?_⟩
    rintro m σ' H' ⟨O', ρ', st, S', h'⟩
    cases m with
    | zero => exact h'.elim
    | succ m =>
      unfold whL at h'
      refine ⟨H0, O0, O', ρ', S', goodB (ff := fun c => if c = true then (match f ρ' with | .next ρ2 => whL gt f m ρ2 | .cnt ρ2 => whL gt f m ρ2 | .brk ρ2 => .next ρ2 | o => o) else .next ρ') hB S' h' fun d v H1 e1 s1 r1 h1 => ?_⟩
      have r1 : v = d := r1
      subst r1
      have S1 := S'.same s1
      have st1 := st.tr (Step.of_same (O := O') s1)
      cases v with
      | false => exact h1 σ' O' H1 Step.refl S1
      | true =>
        simp only [if_true] at h1 ⊢
        refine ⟨fun σ2 H2 => ∃ O2 ρ2, Step O H O2 H2 ∧ Stt X.fr H0 O0 B Ω O2 H2 σ2 ρ2 ∧ GoodS X.fr X.mg W fr H0 O0 B Ωl Ω O2 H2 (whL gt f m ρ2) Dn, fun σ2 H2 q => ⟨m, Nat.lt_succ_self m, q⟩, H0, O0, O', ρ', S1, ?_⟩
        cases q : f ρ' with
        | next ρ3 => rw [q] at h1; exact fun σ4 O4 H4 s4 S4 => ⟨O4, ρ3, st1.tr s4, S4, h1.step s4⟩
        | cnt ρ3 => rw [q] at h1; exact fun σ4 O4 H4 s4 S4 => ⟨O4, ρ3, st1.tr s4, S4, h1.step s4⟩
        | brk ρ3 => rw [q] at h1; exact fun σ4 O4 H4 s4 S4 => h1 σ4 O4 H4 s4 S4
        | ret d => rw [q] at h1; exact h1
        | exc n ρ3 => rw [q] at h1; exact h1
        | stuck => rw [q] at h1; exact h1
/-! ### changes of own lists -/
def tyL {K : Fr} {H : Hp} {p : Addr} {xs : List V} (h : H p = some (.lst xs)) : tyV K "list" (.ref p) H := .inl ⟨rfl, _, .inl (.inl h)⟩
def yApp (i : Nat) (g : Env → R D) : YF := fun ρ => match ρ[i]? with
  | some (some (.list ds)) => yB (g ρ) ρ fun d => if ds.length < sizeLine then .next (ρ.set i (some (.list (ds ++ [d])))) else .stuck
  | _ => .stuck
theorem py_app {i : Nat} (hB : noB B Ω = true) (ho : Ω.contains i = true) (hb : B.contains i = false) (hp : PE X e (tBM X.fr "list" rAppend (tVar i) (tCons (tX X.fr X.mg W B Ω g) tNil)))
    (hs : swapsWith e none pos.line X.env = pure false := by rfl) : PY X W fr B Ωl Ω Ω (.Expr e pos) (yApp i g) :=
  PS.imp (ps_expr hp hs) fun Dn σ H ⟨H0, O0, O, ρ, S, h⟩ => by
    have ho : i ∈ Ω := by simpa using ho
    have hb : i ∉ B := by simpa using hb
    unfold yApp at h
    split at h
    · rename_i ds er
      obtain ⟨q, e1, e2, e3, xs, e4, e5⟩ := S.owL i _ er ho rfl
      refine ⟨.ref q, e1, tyL e4, H0, O0, O, ρ, S, goodB (ff := fun d => if ds.length < sizeLine then .next (ρ.set i (some (.list (ds ++ [d])))) else .stuck) hB S h fun d v H1 _ s1 r1 h1 => ?_⟩
      split at h1
      · rename_i hz
        have e41 := s1 _ _ e4
        refine ⟨q, xs, v, rfl, rfl, e41, by rw [e5.length]; exact hz, ?_⟩
        have S1 := S.same s1
        have ge : Ge O H1 (upd H1 q (.lst (xs ++ [v]))) := fun a u ha e => by rw [upd_ne (fun z => ha (by rw [z]; exact e2))]; exact e
        obtain ⟨S2, st⟩ := S1.put (o := .lst (xs ++ [v])) (d := .list (ds ++ [d])) ho hb er e1 ⟨_, upd_same, ((e5.same s1).ge ge).append (RpAll.one (r1.ge ge))⟩
        exact h1 _ O _ st S2
      · exact h1.elim
    · exact h.elim
end
end MV

set_option Elab.async false
set_option linter.all false
set_option maxRecDepth 100000
set_option maxHeartbeats 4000000
namespace MV
open PySem L2

/-! ### a def by its mirror -/
def borS (ks : List Bool) : List Nat := (List.range ks.length).filter fun i => ks.getD i false
def runF (n : Nat) (fr : Bool) (body : YF) (ds : List D) : R D := match body (ds.map some ++ List.replicate (n - ds.length) none) with
  | .ret d => .ok d
  | .next _ => if fr = true then .stuck else .ok .none
  | .exc n _ => .exc n
  | _ => .stuck
theorem rpk_len {K : Fr} {O : List Addr} {H : Hp} : ∀ {ks : List Bool} {vs : List V} {ds : List D}, RpK K O H ks vs ds → vs.length = ks.length ∧ ds.length = ks.length
  | [], [], [], _ => ⟨rfl, rfl⟩
  | b :: ks, v :: vs, d :: ds, h => by obtain ⟨h1, h2⟩ := rpk_len h.2; simp [h1, h2]
  | [], v :: vs, _, h => h.elim
  | [], [], d :: ds, h => h.elim
  | b :: ks, [], _, h => h.elim
  | b :: ks, v :: vs, [], h => h.elim
theorem rpk_get {K : Fr} {O : List Addr} {H : Hp} : ∀ {ks : List Bool} {vs : List V} {ds : List D} {i : Nat} {d : D}, RpK K O H ks vs ds → ds[i]? = some d → ∃ v, vs[i]? = some v ∧ (if ks.getD i false = true then Rs K O H H v d else Rp K O H v d)
  | [], [], [], i, d, _, e => by simp at e
  | b :: ks, v :: vs, d :: ds, 0, _, h, e => by simp at e; subst e; exact ⟨v, rfl, by simpa using h.1⟩
  | b :: ks, v :: vs, d :: ds, i + 1, _, h, e => by simpa using rpk_get h.2 (by simpa using e)
  | [], v :: vs, _, _, _, h, _ => h.elim
  | [], [], d :: ds, _, _, h, _ => h.elim
  | b :: ks, [], _, _, _, h, _ => h.elim
  | b :: ks, v :: vs, [], _, _, h, _ => h.elim
theorem start_get {N : List Str} {vs : List V} {i : Nat} {v : V} (h : vs[i]? = some v) : (start N vs)[i]? = some (some v) := by
  obtain ⟨hl, _⟩ := List.getElem?_eq_some_iff.mp h
  unfold L2.start
  rw [List.getElem?_append_left (by simpa using hl), List.getElem?_map, h]; rfl
theorem startE_get {ds : List D} {n i : Nat} {d : D} (h : (ds.map some ++ List.replicate n none)[i]? = some (some d)) : ds[i]? = some d := by
  by_cases hl : i < ds.length
  · rw [List.getElem?_append_left (by simpa using hl), List.getElem?_map] at h
    cases e : ds[i]? with
    | none => rw [e] at h; cases h
    | some x => rw [e] at h; cases h; rfl
  · rw [List.getElem?_append_right (by simpa using hl), List.getElem?_replicate] at h
    split at h <;> cases h
theorem stt_start {K : Fr} {O : List Addr} {H : Hp} {N : List Str} {ks : List Bool} {vs : List V} {ds : List D} (ht : ∀ a ∈ O, H a ≠ none) (h : RpK K O H ks vs ds) : Stt K H O (borS ks) [] O H (start N vs) (ds.map some ++ List.replicate (N.length - ds.length) none) where
  keep := Same.refl
  trk0 := ht
  sub := fun _ h => h
  trk := ht
  fz := fun i d e h1 h2 => by
    have e' := startE_get e
    obtain ⟨v, ev, r⟩ := rpk_get h e'
    refine ⟨v, start_get ev, ?_⟩
    cases q : ks.getD i false with
    | false => rw [q] at r; simpa using r
    | true =>
      obtain ⟨hl, _⟩ := List.getElem?_eq_some_iff.mp e'
      exact absurd (List.mem_filter.mpr ⟨List.mem_range.mpr (by rw [← (rpk_len h).2]; exact hl), q⟩) h2
  bor := fun i d e h1 h2 => by
    have e' := startE_get e
    obtain ⟨v, ev, r⟩ := rpk_get h e'
    refine ⟨v, start_get ev, ?_⟩
    have q : ks.getD i false = true := (List.mem_filter.mp h2).2
    rw [q] at r; simpa using r
  ow := fun i d e h => by simp at h
  dist := fun i h => by simp at h
  len := by
    obtain ⟨h1, h2⟩ := rpk_len h
    unfold L2.start
    simp [h1, h2]
section
variable {P : Program} {w : World} {K : PySem.W.Frag} {mg : Str → Option Value} {base : Heap}
abbrev WD (E : XK) : WX := fun cls d _ H => E cls d H
open PySem.Spec PyProof.Rows in
/-- Fun.okX where what leaves has no context -/
theorem okXN {x qual : Str} {st : Stmt} {f : Addr} {fd : FuncData} {N ps : List Str} {k : Nat} {sp : Sp} (F : Fun K x qual st f fd) (S : FnScope N ps (defScope st)) (len : ∀ vs H Q E, sp vs H Q E → vs.length = ps.length)
    (hbody : ∀ (cdv : Value) (A : Around) (outer : List PySem.Env) (s : Shared) (H : Hp) (vs : List V) (Q : VK) (E : XK), Room k (A.deeper (envOfC qual (defScope st) s.heap.objs.size f cdv)) → sp vs H Q E →
      ∃ t, PSs (cxOf (L2N.CX P w) P w K mg base N qual (defScope st) f cdv A outer s H E) (defBody st) t ∧ t { nx := fun _ H' => Q .non H', rt := Q } (start N vs) H) : FnOk P w K mg base (L2N.CX P w) (k + 1) f fd ps sp := by
  obtain ⟨oc, od, kV, doc, pm, an, cdv, ct, osl, rfl, lk, hcd⟩ := F.ex
  exact fn_of lk hcd S len fun A outer s H vs Q E hr hsp => hbody cdv A outer s H vs Q E hr hsp
theorem fn_ok {x qual : Str} {st : Stmt} {f : Addr} {fd : FuncData} {N ps : List Str} {k : Nat} (F : Fun K x qual st f fd) (S : FnScope N ps (defScope st)) (ks : List Bool) (fr : Bool) (body : YF) {Ωl Ω' : List Nat} (hk : ks.length = ps.length)
    (h : ∀ (cdv : Value) (A : Around) (outer : List PySem.Env) (s : Shared) (H : Hp) (E : XK), Gd (cxOf (L2N.CX P w) P w K mg base N qual (defScope st) f cdv A outer s H E) (WD E) k →
      PYs (cxOf (L2N.CX P w) P w K mg base N qual (defScope st) f cdv A outer s H E) (WD E) fr (borS ks) Ωl [] Ω' (defBody st) body) :
    FnOk P w K mg base (L2N.CX P w) (k + 1) f fd ps (spM ⟨K, P, w, mg⟩ mg ks fr (runF N.length fr body)) := by
  refine okXN F S (fun vs H Q E ⟨O, ds, ht, r, _⟩ => by rw [(rpk_len r).1, hk]) fun cdv A outer s H vs Q E hr ⟨O, ds, ht, r, q⟩ => ?_
  refine ⟨_, h cdv A outer s H E ⟨L2N.takes_of rfl rfl rfl rfl, passes_of rfl, rfl, S.nd, hr⟩, H, O, O, _, stt_start ht r, ?_⟩
  have hX : (cxOf (L2N.CX P w) P w K mg base N qual (defScope st) f cdv A outer s H E).K = K := rfl
  unfold runF at q
  cases e : body (ds.map some ++ List.replicate (N.length - ds.length) none) with
  | next ρ =>
    rw [e] at q
    cases fr with
    | true => exact q.elim
    | false => exact fun σ' O' H' _ S' => (show RetG ⟨K, P, w, mg⟩ false O H .none Q from q) _ H' S'.keep .non
  | ret d => rw [e] at q; exact q
  | exc n ρ =>
    rw [e] at q
    exact fun C σ' O' H' m _ S' => q C H' m S'.keep
  | brk ρ => rw [e] at q; exact q.elim
  | cnt ρ => rw [e] at q; exact q.elim
  | stuck => rw [e] at q; exact q.elim
end
/-! ### the law's end -/
def noLists (K : PySem.W.Frag) : Bool := K.all fun p => !(p.2.cls == .type "list")
theorem lookup_mem {K : PySem.W.Frag} {a : Addr} {o : Obj} (h : K.lookup a = some o) : (a, o) ∈ K := by
  induction K with
  | nil => cases h
  | cons p K ih =>
    rw [List.lookup_cons] at h
    split at h
    · rename_i e
      have e : a = p.1 := by simpa using e
      cases h; rw [e]; exact List.mem_cons_self
    · exact List.mem_cons_of_mem _ (ih h)
theorem rd_of_sq {K : PySem.W.Frag} {H : Hp} {a : Addr} {xs : List V} (hn : noLists K = true) (h : SqL K H a xs) : Rd H a (.lst xs) := by
  rcases h with h | ⟨o, its, n, hl, hc, _⟩
  · exact h
  · have := List.all_eq_true.mp hn (a, o) (lookup_mem hl)
    simp [hc] at this
theorem law_walk {l : PySem.W.OpenLaw} {k : Nat} {q : Program} {loose : List Str} {XP : (Str → Option Value) → Heap → Prop} {YP : World → Heap → Prop} {d : DefRec} {K : Params → PySem.W.Frag} {x : Str} (g : List D → R D)
    (hn : l.most = some 63) (hdf : d.params.defaults = []) (hr : Room k callerA) (hY : ∀ (w : World) (h : Heap), YP w h → (K w.params).In h) (nl : ∀ (w : World) (h : Heap), (K w.params).In h → noLists (K w.params) = true) (hg : ∀ ns : List Int, ns.length ≤ 63 → g [.list (ns.map .int)] = .ok (.bool true))
    (F : ∀ (w : World) (mg : Str → Option Value) (fa : Addr) (h : Heap), (K w.params).In h → h.Ns mainGlobals mg → mg d.name = some (.ref fa) →
      ∃ fd : FuncData, (∀ (s : Shared) (u : Value), BindsTo s fd ⟨[u], []⟩ [(x, u)]) ∧ ∀ base : Heap, (K w.params).In base → base.Ns mainGlobals mg → FnOk l.prog w (K w.params) mg base (L2N.CX l.prog w) k fa fd [x] (spM ⟨K w.params, l.prog, w, mg⟩ mg [true] false g)) :
    PySem.W.WalkO q loose XP YP l.row.toRowW d [] (fun f vs => PySem.call f vs) := by
  refine L2.walk_of (l := l) (n := 63) (k := k) (x := x) (CX := fun w => L2N.CX l.prog w) (K := K)
    (sp := fun w => fun vs H Q E => ∃ a ns, vs = [.ref a] ∧ ns.length ≤ 63 ∧ SqL (K w.params) H a (ns.map V.int) ∧ ∀ H', Q (.bl true) H') hn (by decide) hdf hr hY (fun w mg fa h KX G hmg => ?_)
    (fun w H a ns hl _ hS => ⟨a, ns, rfl, hl, hS, fun _ => rfl⟩) (fun w H s e s' z => by obtain ⟨_, _, _, _, _, _, _, _, _, _, _, _, z⟩ := z; exact z)
  obtain ⟨fd, hb, hF⟩ := F w mg fa h KX G hmg
  refine ⟨fd, hb, fun base k1 k2 => (hF base k1 k2).imp fun vs H Q E ⟨a, ns, e, hl, hS, q⟩ => ?_⟩
  subst e
  refine ⟨[], [.list (ns.map .int)], by simp, ⟨by rw [if_pos rfl]; exact Or.inr ⟨a, rfl, _, rd_of_sq (nl w h KX) hS, ints_rp ns⟩, True.intro⟩, ?_⟩
  rw [hg ns hl]
  intro v H' _ r
  cases r
  exact q H'
end MV

set_option Elab.async false
set_option linter.all false
set_option maxRecDepth 100000
set_option maxHeartbeats 4000000
namespace MV
open PySem L2

/-- a def of the text: where it stands, what it keeps -/
structure DefOk (P : Program) (w : World) (K : PySem.W.Frag) (mg : Str → Option Value) (base : Heap) (nm : Str) (f : Addr) (fd : FuncData) (ps : List Str) (ks : List Bool) (fr : Bool) (g : List D → R D) (j : Nat) : Prop where
  F : FnOk P w K mg base (L2N.CX P w) j f fd ps (spM ⟨K, P, w, mg⟩ mg ks fr g)
  m : mg nm = some (.ref f)
  k : PySem.W.keepIn K (.ref f) = true
  b : Binds K fd ps []
section
variable {X : Cx} {W : WX} {B Ω : List Nat} {k : Nat} {a b c e o : Expr} {es : List Expr} {ga gb gc : Env → R D} {gs : Env → R (List D)} {ks : List Bool} {pos p apos : Pos} {nm : Str} {f : Addr} {fd : FuncData} {ps : List Str} {g : List D → R D} {j : Nat}
theorem px_c (G : Gd X W k) (C : DefOk X.prog X.w X.K X.mg X.base nm f fd ps ks false g j) (hj : Nat.ble j k = true) (hg : Gl X nm) (ha : PAk X W B Ω ks (e :: es) gs) (hdb : (nm == ("__debug__" : Str)) = false := by decide) (he : starEach (e :: es) X.env = (false, eval e X.env) :: starEach es X.env := by rfl) (hpl : (backTo pos (starEach es X.env)).any (·.1) = false := by rfl) :
    PX X W B Ω (.Call (.Name nm p) (e :: es) [] pos) (xCall g gs) := px_call G C.F (Nat.le_of_ble_eq_true hj) hg C.m C.k C.b ha hdb he hpl
theorem po_c (G : Gd X W k) (C : DefOk X.prog X.w X.K X.mg X.base nm f fd ps ks true g j) (hj : Nat.ble j k = true) (hg : Gl X nm) (ha : PAk X W B Ω ks (e :: es) gs) (hdb : (nm == ("__debug__" : Str)) = false := by decide) (he : starEach (e :: es) X.env = (false, eval e X.env) :: starEach es X.env := by rfl) (hpl : (backTo pos (starEach es X.env)).any (·.1) = false := by rfl) :
    PO X W B Ω (.Call (.Name nm p) (e :: es) [] pos) (xCall g gs) := po_call G C.F (Nat.le_of_ble_eq_true hj) hg C.m C.k C.b ha hdb he hpl
theorem px_gint {x : Str} {i : Int} (hg : Gl X x) (h : ∃ t, X.mg x = some (.int i t)) (hd : (x == ("__debug__" : Str)) = false := by decide) : PX X W B Ω (.Name x pos) (xC (.int i)) := by
  obtain ⟨t, h⟩ := h
  exact PE.imp (pe_glob (v := .int i) hg h ⟨t, rfl⟩ hd) fun _ _ _ ⟨_, _, _, _, _, h⟩ => h.use (.int i)
theorem px_gstr {x z : Str} (hg : Gl X x) (h : ∃ t, X.mg x = some (.str z t)) (hs : PyData.strOk z = true := by decide +kernel) (hd : (x == ("__debug__" : Str)) = false := by decide) : PX X W B Ω (.Name x pos) (xC (.str z)) := by
  obtain ⟨t, h⟩ := h
  exact PE.imp (pe_glob (v := .str z) hg h ⟨t, rfl⟩ hd) fun _ _ _ ⟨_, _, _, _, _, h⟩ => h.use (.str z hs)

/-! ### zip of two lists, of two tuples -/
def zipD : List D → R (List D)
  | [.list xs, .list ys] => .ok ((xs.zip ys).map fun p => .tuple [p.1, p.2])
  | [.tuple xs, .tuple ys] => .ok ((xs.zip ys).map fun p => .tuple [p.1, p.2])
  | _ => .stuck
def xZip (f : List D → R (List D)) (gs : Env → R (List D)) : Env → R (List D) := fun ρ => (gs ρ).bind f
theorem zip_get {xs ys : List D} {i : Nat} {d : D} (h : ((xs.zip ys).map fun p => PyData.tuple [p.1, p.2])[i]? = some d) : ∃ x y, xs[i]? = some x ∧ ys[i]? = some y ∧ d = .tuple [x, y] := by
  rw [List.getElem?_map] at h
  cases e : (xs.zip ys)[i]? with
  | none => rw [e] at h; cases h
  | some q =>
    rw [e] at h; cases h
    obtain ⟨h1, h2⟩ := List.getElem?_zip_eq_some.mp e
    exact ⟨_, _, h1, h2, rfl⟩
theorem sqL_inj_ok {K : Fr} {H : Hp} {a : Addr} {xs : List V} (h : Rd H a (.lst xs)) : SqL K H a xs := .inl h
theorem pis_zip {elts : List Expr} {kk : Nat} {tpos : Pos} (hg : Gl X "zip") (hm : X.mg "zip" = none) (ha : PAf X W B Ω [a, b] gs)
    (hs : starEach [a, b] X.env = (false, eval a X.env) :: starEach [b] X.env := by rfl) (hpl : (backTo pos (starEach [b] X.env)).any (·.1) = false := by rfl) : PIs X W B Ω (.Tuple elts kk tpos) (.Call (.Name "zip" p) [a, b] [] pos) (xZip zipD gs) :=
  PI.imp (RZ.pi_zipA hg hm ha hs hpl) fun σ H Q ⟨H0, O0, O, ρ, S, h⟩ => ⟨H0, O0, O, ρ, S, Good.bind (f := zipD) h fun ds vs H1 e s1 r1 h1 => by
    unfold zipD at h1
    split at h1
    · rename_i xs ys
      cases r1 with
      | cons r1 r2 =>
        cases r2 with
        | cons r2 r3 =>
          cases r3
          cases r1 with
          | lst a1 a2 =>
            cases r2 with
            | lst b1 b2 =>
              refine ⟨_, _, _, _, rfl, .inl ⟨.inl a1.2, .inl b1.2, h1.use fun O' H' _ st ht => ?_⟩⟩
              have ra := (ge_rd st.ge _ _ a1.1 a1.2).2
              have rb := (ge_rd st.ge _ _ b1.1 b1.2).2
              refine ⟨fun i d ed => ?_, _, _, .inl ra, .inl rb, ?_⟩
              · obtain ⟨x, y, ex, ey, rfl⟩ := zip_get ed
                obtain ⟨v, ev, rv⟩ := a2.get ex
                obtain ⟨u, eu, ru⟩ := b2.get ey
                refine ⟨⟨_, _, v, u, .inl ra, .inl rb, ev, eu⟩, fun x' H2 ⟨T, v', u', e1, e2, e3, e4, e5⟩ => ?_⟩
                have k1 := e4 _ (.inl ra)
                have k2 := e5 _ (.inl rb)
                rw [ev] at k1; cases k1
                rw [eu] at k2; cases k2
                subst e1 e3
                exact ⟨same_upd e2, new_tup ht e2 (.cons (rv.step st) (.cons (ru.step st) .nil))⟩
              · rw [List.length_map, List.length_zip, a2.length, b2.length]; omega
    · rename_i xs ys
      cases r1 with
      | cons r1 r2 =>
        cases r2 with
        | cons r2 r3 =>
          cases r3
          cases r1 with
          | tup a1 a2 =>
            cases r2 with
            | tup b1 b2 =>
              refine ⟨_, _, _, _, rfl, .inr ⟨.inl (.inl a1.2), .inl (.inl b1.2), h1.use fun O' H' _ st ht => ?_⟩⟩
              have ra := (ge_rd st.ge _ _ a1.1 (.inl a1.2)).2
              have rb := (ge_rd st.ge _ _ b1.1 (.inl b1.2)).2
              refine ⟨fun i d ed => ?_, _, _, .inl ra, .inl rb, ?_⟩
              · obtain ⟨x, y, ex, ey, rfl⟩ := zip_get ed
                obtain ⟨v, ev, rv⟩ := a2.get ex
                obtain ⟨u, eu, ru⟩ := b2.get ey
                refine ⟨⟨_, _, v, u, .inl ra, .inl rb, ev, eu⟩, fun x' H2 ⟨T, v', u', e1, e2, e3, e4, e5⟩ => ?_⟩
                have k1 := e4 _ (.inl ra)
                have k2 := e5 _ (.inl rb)
                rw [ev] at k1; cases k1
                rw [eu] at k2; cases k2
                subst e1 e3
                exact ⟨same_upd e2, new_tup ht e2 (.cons (rv.step st) (.cons (ru.step st) .nil))⟩
              · rw [List.length_map, List.length_zip, a2.length, b2.length]; omega
    · exact h1.elim⟩

/-! ### methods of texts -/
def m0D (f : D → R D) (g : Env → R D) : Env → R D := x1 f g
def upperD : D → R D
  | .str z => okIf (decide (z.length ≤ 5592405) && PyData.strOk (Txt.upper z)) (.str (Txt.upper z))
  | _ => .stuck
theorem px_upper (ho : PX X W B Ω o ga) (hbase : attributeBase o "upper" X.env (eval o X.env) = eval o X.env := by rfl) (hline : (apos.endLine == pos.line) = true := by rfl) : PX X W B Ω (.Call (.Attribute o "upper" apos) [] [] pos) (x1 upperD ga) :=
  PE.imp (pe_upper ho hbase hline) fun σ H Q ⟨H0, O0, O, ρ, S, h⟩ => ⟨H0, O0, O, ρ, S, Good.bind (f := upperD) h fun d v H1 e s1 r1 h1 => by
    cases d <;> first | exact h1.elim | skip
    cases r1
    obtain ⟨z, ez⟩ := h1.ok_of fun n hn => by simp [upperD] at hn
    rw [ez] at h1
    obtain ⟨hz, rfl⟩ := okIf_ok ez
    simp only [Bool.and_eq_true, decide_eq_true_eq] at hz
    exact ⟨⟨_, rfl⟩, _, rfl, rfl, hz.1, h1.use (.str _ hz.2)⟩⟩
def strsOf : List D → Option (List Str)
  | [] => some []
  | .str i :: ds => (strsOf ds).map (i :: ·)
  | _ :: _ => none
@[simp] theorem strsOf_map (ns : List Str) : strsOf (ns.map .str) = some ns := by
  induction ns with
  | nil => rfl
  | cons n ns ih => simp [strsOf, ih]
theorem strsOf_eq : ∀ {ds : List D} {ns : List Str}, strsOf ds = some ns → ds = ns.map .str
  | [], ns, h => by simp [strsOf] at h; subst h; rfl
  | d :: ds, ns, h => by
    cases d <;> simp only [strsOf] at h <;> try cases h
    obtain ⟨ms, e, rfl⟩ := Option.map_eq_some_iff.mp h
    rw [strsOf_eq e]; rfl
theorem rp_strs {K : Fr} {O : List Addr} {H : Hp} : ∀ {ns : List Str} {vs : List V}, RpAll K O H vs (ns.map .str) → vs = ns.map .str ∧ ∀ z ∈ ns, PyData.strOk z = true
  | [], vs, h => by cases h; exact ⟨rfl, by simp⟩
  | n :: ns, vs, h => by
    cases h with
    | cons h1 h2 =>
      cases h1 with
      | str _ hs =>
        obtain ⟨e, q⟩ := rp_strs h2
        exact ⟨by rw [e]; rfl, fun z hz => (List.mem_cons.mp hz).elim (fun e => e ▸ hs) (q z)⟩
def joinS (a : Str) : D → R D
  | .list ds => match strsOf ds with
    | some ys => okIf (decide ((ys.map (·.length)).sum + ys.length * a.length ≤ 16777216) && PyData.strOk (Txt.join a ys)) (.str (Txt.join a ys))
    | none => .stuck
  | _ => .stuck
/-- a method of a text with one argument -/
def xM1 (f : Str → D → R D) (ga gb : Env → R D) : Env → R D := fun ρ => (ga ρ).bind fun x => match x with
  | .str z => (gb ρ).bind (f z)
  | _ => .stuck
theorem m1_run {r : V → List V → Hp → VK → Prop} {f : Str → D → R D} (hn : ∀ z y n, f z y ≠ .exc n) (hr : ∀ (O : List Addr) (H : Hp) (z : Str) (u : V) (y d : D) (Q : VK), (∀ a ∈ O, H a ≠ none) → PyData.strOk z = true → Rs X.fr O H H u y → f z y = .ok d → (∀ v H', Same H H' → Rp X.fr O H' v d → Q v H') → r (.str z) [u] H Q)
    {σ : St} {H : Hp} {Q : VK} (h : tX X.fr X.mg W B Ω (xM1 f ga gb) σ H Q) : tM1 r (tX X.fr X.mg W B Ω ga) (tB X.fr X.mg W B Ω gb) σ H Q := by
  obtain ⟨H0, O0, O, ρ, S, h⟩ := h
  refine ⟨H0, O0, O, ρ, S, Good.bind h fun d v H1 e1 s1 r1 h1 => ?_⟩
  cases d <;> first | exact h1.elim | skip
  cases r1 with
  | str _ hz =>
    refine ⟨⟨_, rfl⟩, H0, O0, O, ρ, S.same s1, Good.bind h1 fun y u H2 e2 s2 r2 h2 => ?_⟩
    obtain ⟨w, ew⟩ := h2.ok_of (hn _ _)
    rw [ew] at h2
    exact hr O H2 _ u y w Q ((S.same s1).same s2).trk hz r2 ew h2
theorem px_join (ho : PX X W B Ω o ga) (he : PB X W B Ω e gb) (hs : starEach [e] X.env = [(false, eval e X.env)] := by rfl) (hbase : attributeBase o "join" X.env (eval o X.env) = eval o X.env := by rfl) (hline : (apos.endLine == pos.line) = true := by rfl) :
    PX X W B Ω (.Call (.Attribute o "join" apos) [e] [] pos) (xM1 joinS ga gb) :=
  PE.imp (pe_join ho he hs hbase hline) fun σ H Q h => m1_run (f := joinS) (fun z y n => by cases y <;> simp only [joinS] <;> (try split) <;> simp) (fun O H z u y d Q ht hz hy e q => by
    cases y <;> simp only [joinS] at e <;> try cases e
    split at e
    · rename_i ys hys
      obtain ⟨c, rfl⟩ := okIf_ok e
      simp only [Bool.and_eq_true, decide_eq_true_eq] at c
      obtain rfl := strsOf_eq hys
      obtain ⟨p, xs, rfl, q1, q2⟩ := hy.lst
      obtain ⟨rfl, _⟩ := rp_strs q2
      exact ⟨_, _, _, rfl, rfl, .inl (.inl q1), c.1, q _ H Same.refl (.str _ c.2)⟩
    · cases e) h
/-! ### own lists changed -/
def ySub (i : Nat) (gi ge : Env → R D) : YF := fun ρ => yB (ge ρ) ρ fun d => match ρ[i]? with
  | some (some (.list ds)) => yB (gi ρ) ρ fun j => match j with
    | .int j => match ixN ds.length j with
      | some m => .next (ρ.set i (some (.list (ds.set m d))))
      | none => .stuck
    | _ => .stuck
  | _ => .stuck
theorem py_sub {fr : Bool} {Ωl : List Nat} {i : Nat} {x : Str} {xpos spos pos : Pos} {ix : Expr} {gi ge : Env → R D} (hB : noB B Ω = true) (ho : Ω.contains i = true) (hb : B.contains i = false)
    (hp : PS X (.Assign [.Subscript (.Name x xpos) ix spos] e pos) (tAsg (tX X.fr X.mg W B Ω ge) (gSub (tVar i) (tX X.fr X.mg W B Ω gi) rSetL))) :
    PY X W fr B Ωl Ω Ω (.Assign [.Subscript (.Name x xpos) ix spos] e pos) (ySub i gi ge) :=
  PS.imp hp fun Dn σ H ⟨H0, O0, O, ρ, S, h⟩ => ⟨H0, O0, O, ρ, S, goodB hB S h fun d v H1 e1 s1 r1 h1 => by
    have ho : i ∈ Ω := by simpa using ho
    have hb : i ∉ B := by simpa using hb
    have S1 := S.same s1
    split at h1
    · rename_i ds er
      obtain ⟨q, e1, e2, e3, xs, e4, e5⟩ := S1.owL i _ er ho rfl
      refine ⟨.ref q, e1, H0, O0, O, ρ, S1, goodB hB S1 h1 fun jd jv H2 ej s2 r2 h2 => ?_⟩
      cases jd <;> first | exact h2.elim | skip
      rename_i jj
      cases r2
      have h2 : GoodS X.fr X.mg W fr H0 O0 B Ωl Ω O H2 (match ixN ds.length jj with | some m => .next (ρ.set i (some (.list (ds.set m d)))) | none => .stuck) Dn := h2
      cases hm : ixN ds.length jj with
      | some m =>
        rw [hm] at h2
        have e42 := s2 _ _ e4
        refine ⟨q, xs, _, m, rfl, rfl, e42, by rw [e5.length]; exact hm, ?_⟩
        have S2 := S1.same s2
        have ge : Ge O H2 (upd H2 q (.lst (xs.set m v))) := fun a u ha e => by rw [upd_ne (fun z => ha (by rw [z]; exact e2))]; exact e
        obtain ⟨S3, st⟩ := S2.put (o := .lst (xs.set m v)) (d := .list (ds.set m d)) ho hb er e1 ⟨_, upd_same, ((e5.same s2).ge ge).set m ((r1.same s2).ge ge)⟩
        exact h2 _ O _ st S3
      | none => rw [hm] at h2; exact h2.elim
    · exact h1.elim⟩
end
end MV

set_option Elab.async false
set_option linter.all false
set_option maxRecDepth 100000
set_option maxHeartbeats 4000000
namespace MV
open PySem L2
/-! ### reckoning with mirrors -/
def Out.seq (o : Out) (g : YF) : Out := match o with
  | .next ρ' => g ρ'
  | o => o
section
variable {f g : YF} {ρ ρ' : Env} {d e : D} {n : Str} {gt ta tb : Env → R Bool} {ga gb gc : Env → R D} {gs : Env → R (List D)} {i : Nat}
@[simp] theorem Out.seq_next : (Out.next ρ').seq g = g ρ' := (rfl)
@[simp] theorem Out.seq_ret : (Out.ret d).seq g = .ret d := (rfl)
@[simp] theorem Out.seq_brk : (Out.brk ρ').seq g = .brk ρ' := (rfl)
@[simp] theorem Out.seq_cnt : (Out.cnt ρ').seq g = .cnt ρ' := (rfl)
@[simp] theorem Out.seq_exc : (Out.exc n ρ').seq g = .exc n ρ' := (rfl)
@[simp] theorem Out.seq_stuck : (Out.stuck).seq g = .stuck := (rfl)
@[simp] theorem ySeq_e : ySeq f g ρ = (f ρ).seq g := by unfold ySeq Out.seq; rfl
@[simp] theorem yNil_e : yNil ρ = .next ρ := (rfl)
@[simp] theorem yPass_e : yPass ρ = .next ρ := (rfl)
@[simp] theorem yBrk_e : yBrk ρ = .brk ρ := (rfl)
@[simp] theorem yCnt_e : yCnt ρ = .cnt ρ := (rfl)
@[simp] theorem ySet_e : ySet i ga ρ = yB (ga ρ) ρ fun d => .next (ρ.set i (some d)) := (rfl)
@[simp] theorem yEx_e : yEx ga ρ = yB (ga ρ) ρ fun _ => .next ρ := (rfl)
@[simp] theorem yRet_e : yRet ga ρ = yB (ga ρ) ρ .ret := (rfl)
@[simp] theorem yRetN_e : yRetN ρ = .ret .none := (rfl)
@[simp] theorem yIf_e : yIf gt f g ρ = yB (gt ρ) ρ fun c => if c = true then f ρ else g ρ := (rfl)
@[simp] theorem yUnp_e {bnd : D → Env → Option Env} : yUnp bnd ga ρ = yB (ga ρ) ρ fun d => match bnd d ρ with | some ρ' => .next ρ' | none => .stuck := (rfl)
@[simp] theorem yFor_e {gi : Env → R (List D)} {bnd : D → Env → Option Env} : yFor gi bnd f ρ = yB (gi ρ) ρ fun ds => forL bnd f ds ρ := (rfl)
@[simp] theorem bName_e : bName i d ρ = some (ρ.set i (some d)) := (rfl)
@[simp] theorem bTup_e {is : List Nat} {ds : List D} : bTup is (.tuple ds) ρ = setAll ρ is ds := (rfl)
@[simp] theorem setAll_nil : setAll ρ [] [] = some ρ := (rfl)
@[simp] theorem setAll_cons {is : List Nat} {ds : List D} : setAll ρ (i :: is) (d :: ds) = setAll (ρ.set i (some d)) is ds := (rfl)
@[simp] theorem xVar_e : xVar i ρ = match ρ[i]? with | some (some d) => .ok d | _ => .stuck := (rfl)
@[simp] theorem xC_e : xC d ρ = .ok d := (rfl)
@[simp] theorem x1_e {h : D → R D} : x1 h ga ρ = (ga ρ).bind h := (rfl)
@[simp] theorem x2_e {h : D → D → R D} : x2 h ga gb ρ = (ga ρ).bind fun x => (gb ρ).bind fun y => h x y := (rfl)
@[simp] theorem x3_e {h h' : D → D → R D} : x3 h h' ga gb gc ρ = (ga ρ).bind fun x => (gb ρ).bind fun y => (h x y).bind fun z => match z with | .bool true => (gc ρ).bind fun w => h' y w | .bool false => .ok (.bool false) | _ => .stuck := (rfl)
@[simp] theorem xT_e : xT ga ρ = (ga ρ).bind asB := (rfl)
@[simp] theorem asB_e {b : Bool} : asB (.bool b) = .ok b := (rfl)
@[simp] theorem bAnd_e : bAnd ta tb ρ = (ta ρ).bind fun c => if c = true then tb ρ else .ok false := (rfl)
@[simp] theorem bOr_e : bOr ta tb ρ = (ta ρ).bind fun c => if c = true then .ok true else tb ρ := (rfl)
@[simp] theorem bNot_e : bNot ta ρ = (ta ρ).bind fun c => .ok (!c) := (rfl)
@[simp] theorem xAnd_e : xAnd ga gb ρ = (ga ρ).bind fun x => match x with | .bool true => gb ρ | .bool false => .ok (.bool false) | _ => .stuck := (rfl)
@[simp] theorem xOr_e : xOr ga gb ρ = (ga ρ).bind fun x => match x with | .bool true => .ok (.bool true) | .bool false => gb ρ | _ => .stuck := (rfl)
@[simp] theorem xIf_e : xIf ta ga gb ρ = (ta ρ).bind fun c => if c = true then ga ρ else gb ρ := (rfl)
@[simp] theorem xNoP_e : xNoP ρ = .ok none := (rfl)
@[simp] theorem xP_e : xP ga ρ = (ga ρ).bind asI := (rfl)
@[simp] theorem asI_e {j : Int} : asI (.int j) = .ok (some j) := (rfl)
@[simp] theorem xSl_e {gl gh : Env → R (Option Int)} : xSl ga gl gh ρ = (ga ρ).bind fun x => (gl ρ).bind fun l => (gh ρ).bind fun h => slD x l h := (rfl)
@[simp] theorem xSlL_e {gl gh : Env → R (Option Int)} : xSlL ga gl gh ρ = (ga ρ).bind fun x => (gl ρ).bind fun l => (gh ρ).bind fun h => slL x l h := (rfl)
@[simp] theorem aNil_e : aNil ρ = .ok [] := (rfl)
@[simp] theorem aCons_e : aCons ga gs ρ = (ga ρ).bind fun d => (gs ρ).bind fun ds => .ok (d :: ds) := (rfl)
@[simp] theorem xTup_e : xTup gs ρ = (gs ρ).bind mkTup := (rfl)
@[simp] theorem xLst_e : xLst gs ρ = (gs ρ).bind mkLst := (rfl)
@[simp] theorem xCall_e {h : List D → R D} : xCall h gs ρ = (gs ρ).bind h := (rfl)
@[simp] theorem xSeq_e : xSeq ga ρ = (ga ρ).bind seqD := (rfl)
@[simp] theorem seqD_l {ds : List D} : seqD (.list ds) = .ok ds := (rfl)
@[simp] theorem seqD_t {ds : List D} : seqD (.tuple ds) = .ok ds := (rfl)
@[simp] theorem xRng_e {h : List D → R (List D)} : xRng h gs ρ = (gs ρ).bind h := (rfl)
@[simp] theorem xZip_e {h : List D → R (List D)} : xZip h gs ρ = (gs ρ).bind h := (rfl)
@[simp] theorem xLc_e {ws : List Nat} {gi : Env → R (List D)} {bnd : D → Env → Option Env} : xLc ws gi bnd gt ga ρ = (gi ρ).bind fun ds => if ds.length ≤ sizeLine then (lcL bnd gt ga (wipeE ρ ws) ds).bind fun ys => .ok (.list ys) else .stuck := (rfl)
@[simp] theorem tYesX_e : tYesX ρ = .ok true := (rfl)
@[simp] theorem wipeE_nil : wipeE ρ [] = ρ := (rfl)
@[simp] theorem wipeE_cons {w : Nat} {ws : List Nat} : wipeE ρ (w :: ws) = (wipeE ρ ws).set w none := (rfl)
@[simp] theorem yApp_e : yApp i ga ρ = match ρ[i]? with | some (some (.list ds)) => yB (ga ρ) ρ fun d => if ds.length < sizeLine then .next (ρ.set i (some (.list (ds ++ [d])))) else .stuck | _ => .stuck := (rfl)
@[simp] theorem okIf_t : okIf true d = .ok d := (rfl)
theorem okIf_p {p : Prop} [Decidable p] (h : p) : okIf (decide p) d = .ok d := by rw [decide_eq_true h]; rfl
@[simp] theorem addD_ii {a b : Int} : addD (.int a) (.int b) = .ok (.int (a + b)) := (rfl)
@[simp] theorem subD_ii {a b : Int} : subD (.int a) (.int b) = .ok (.int (a - b)) := (rfl)
@[simp] theorem negD_i {a : Int} : negD (.int a) = .ok (.int (-a)) := (rfl)
@[simp] theorem notD_b {a : Bool} : notD (.bool a) = .ok (.bool (!a)) := (rfl)
theorem addD_ll {a b : List D} (h : a.length + b.length ≤ sizeLine) : addD (.list a) (.list b) = .ok (.list (a ++ b)) := okIf_p h
theorem addD_tt {a b : List D} (h : a.length + b.length ≤ sizeLine) : addD (.tuple a) (.tuple b) = .ok (.tuple (a ++ b)) := okIf_p h
theorem addD_ss {a b : Str} (h : a.length + b.length ≤ sizeLine) : addD (.str a) (.str b) = .ok (.str (a ++ b)) := okIf_p h
@[simp] theorem ltD_ii {a b : Int} : ltD (.int a) (.int b) = .ok (.bool (decide (a < b))) := (rfl)
@[simp] theorem ltD_ss {a b : Str} : ltD (.str a) (.str b) = .ok (.bool (decide (a.cps.toList < b.cps.toList))) := (rfl)
@[simp] theorem leD_ii {a b : Int} : leD (.int a) (.int b) = .ok (.bool (decide (a ≤ b))) := (rfl)
@[simp] theorem gtD_ii {a b : Int} : gtD (.int a) (.int b) = .ok (.bool (decide (b < a))) := (rfl)
@[simp] theorem geD_ii {a b : Int} : geD (.int a) (.int b) = .ok (.bool (decide (b ≤ a))) := (rfl)
@[simp] theorem eqD_ii {a b : Int} : eqD (.int a) (.int b) = .ok (.bool (decide (a = b))) := by simp [eqD, shp, PyData.eqv, Bool.beq_eq_decide_eq]
@[simp] theorem neD_ii {a b : Int} : neD (.int a) (.int b) = .ok (.bool (!decide (a = b))) := by simp [neD, shp, PyData.eqv, Bool.beq_eq_decide_eq]
@[simp] theorem eqD_bb {a b : Bool} : eqD (.bool a) (.bool b) = .ok (.bool (decide (a = b))) := by simp [eqD, shp, PyData.eqv, Bool.beq_eq_decide_eq]
@[simp] theorem neD_bb {a b : Bool} : neD (.bool a) (.bool b) = .ok (.bool (!decide (a = b))) := by simp [neD, shp, PyData.eqv, Bool.beq_eq_decide_eq]
theorem modD_i {a b : Int} (h : 0 < b) : modD (.int a) (.int b) = .ok (.int (a % b)) := by
  simp only [modD]
  rw [Int.fmod_eq_emod_of_nonneg _ (by omega)]
  exact okIf_p (by omega)
theorem fdivD_i {a b : Int} (h : 0 < b) (h2 : b < 1073741824) : fdivD (.int a) (.int b) = .ok (.int (a / b)) := by
  simp only [fdivD]
  rw [Int.fdiv_eq_ediv_of_nonneg _ (by omega)]
  have : (decide (b ≠ 0) && decide (b.natAbs < 1073741824)) = true := by
    simp only [Bool.and_eq_true, decide_eq_true_eq]; omega
  rw [this]; rfl
theorem mulD_l {a b : Int} (h : -(2 ^ 64) < a) (h2 : a < 2 ^ 64) : mulD (.int a) (.int b) = .ok (.int (a * b)) := by
  have : mulOk a b = true := by simp only [mulOk, decide_eq_true h, decide_eq_true h2]; rfl
  simp only [mulD, this]; rfl
theorem mulD_r {a b : Int} (h : -(2 ^ 64) < b) (h2 : b < 2 ^ 64) : mulD (.int a) (.int b) = .ok (.int (a * b)) := by
  have : mulOk a b = true := by simp only [mulOk, decide_eq_true h, decide_eq_true h2]; simp
  simp only [mulD, this]; rfl
theorem powD_i {a b : Int} (h : 0 ≤ b) (h2 : b ≤ 1000000) (h3 : a.natAbs < 2 ^ 64) : powD (.int a) (.int b) = .ok (.int (a ^ b.toNat)) := by
  simp only [powD, decide_eq_true h, decide_eq_true h2, decide_eq_true h3]; rfl
theorem mkTup_ok {ds : List D} (h : ds.length ≤ sizeLine) : mkTup ds = .ok (.tuple ds) := if_pos h
theorem mkLst_ok {ds : List D} (h : ds.length ≤ sizeLine) : mkLst ds = .ok (.list ds) := if_pos h
@[simp] theorem mkTup_0 : mkTup [] = .ok (.tuple []) := (rfl)
@[simp] theorem mkTup_1 {a : D} : mkTup [a] = .ok (.tuple [a]) := (rfl)
@[simp] theorem mkTup_2 {a b : D} : mkTup [a, b] = .ok (.tuple [a, b]) := (rfl)
@[simp] theorem mkTup_3 {a b c : D} : mkTup [a, b, c] = .ok (.tuple [a, b, c]) := (rfl)
@[simp] theorem mkTup_4 {a b c e : D} : mkTup [a, b, c, e] = .ok (.tuple [a, b, c, e]) := (rfl)
@[simp] theorem mkLst_0 : mkLst [] = .ok (.list []) := (rfl)
@[simp] theorem mkLst_1 {a : D} : mkLst [a] = .ok (.list [a]) := (rfl)
@[simp] theorem mkLst_2 {a b : D} : mkLst [a, b] = .ok (.list [a, b]) := (rfl)
@[simp] theorem mkLst_3 {a b c : D} : mkLst [a, b, c] = .ok (.list [a, b, c]) := (rfl)
@[simp] theorem lenF_l {ds : List D} : lenF [.list ds] = .ok (.int ds.length) := (rfl)
@[simp] theorem lenF_t {ds : List D} : lenF [.tuple ds] = .ok (.int ds.length) := (rfl)
theorem lenF_s {z : Str} (h : z.length ≤ sizeLine) : lenF [.str z] = .ok (.int z.length) := okIf_p h
@[simp] theorem sumF_e {ns : List Int} : sumF [.list (ns.map .int)] = .ok (.int ns.sum) := by simp [sumF]
@[simp] theorem minF_e {n : Int} {ns : List Int} : minF [.list ((n :: ns).map .int)] = .ok (.int (ns.foldl min n)) := by simp [minF, intsOf]
@[simp] theorem maxF_e {n : Int} {ns : List Int} : maxF [.list ((n :: ns).map .int)] = .ok (.int (ns.foldl max n)) := by simp [maxF, intsOf]
@[simp] theorem minF_2 {a b : Int} : minF [.int a, .int b] = .ok (.int (min a b)) := (rfl)
@[simp] theorem maxF_2 {a b : Int} : maxF [.int a, .int b] = .ok (.int (max a b)) := (rfl)
@[simp] theorem allF_e {bs : List Bool} : allF [.list (bs.map .bool)] = .ok (.bool (bs.all id)) := by simp [allF]
@[simp] theorem anyF_e {bs : List Bool} : anyF [.list (bs.map .bool)] = .ok (.bool (bs.any id)) := by simp [anyF]
@[simp] theorem tupF_l {ds : List D} : tupF [.list ds] = .ok (.tuple ds) := (rfl)
@[simp] theorem tupF_t {ds : List D} : tupF [.tuple ds] = .ok (.tuple ds) := (rfl)
@[simp] theorem lstF_l {ds : List D} : lstF [.list ds] = .ok (.list ds) := (rfl)
@[simp] theorem lstF_t {ds : List D} : lstF [.tuple ds] = .ok (.list ds) := (rfl)
@[simp] theorem intF_i {a : Int} : intF [.int a] = .ok (.int a) := (rfl)
@[simp] theorem intF_b {a : Bool} : intF [.bool a] = .ok (.int (if a = true then 1 else 0)) := (rfl)
@[simp] theorem sortedF_e {ns : List Int} : sortedF [.list (ns.map .int)] = .ok (.list ((srtI ns).map .int)) := by simp [sortedF]
theorem isiF_e {T : String} (h : noDct d = true) : isiF T d = .ok (.bool (isiD T d)) := by simp only [isiF, h]; rfl
@[simp] theorem isiF_non {T : String} : isiF T .none = .ok (.bool (isiD T .none)) := (rfl)
@[simp] theorem isiF_bool {T : String} {b : Bool} : isiF T (.bool b) = .ok (.bool (isiD T (.bool b))) := (rfl)
@[simp] theorem isiF_int {T : String} {i : Int} : isiF T (.int i) = .ok (.bool (isiD T (.int i))) := (rfl)
@[simp] theorem isiF_str {T : String} {z : Str} : isiF T (.str z) = .ok (.bool (isiD T (.str z))) := (rfl)
@[simp] theorem isiF_list {T : String} {ds : List D} : isiF T (.list ds) = .ok (.bool (isiD T (.list ds))) := (rfl)
@[simp] theorem isiF_tuple {T : String} {ds : List D} : isiF T (.tuple ds) = .ok (.bool (isiD T (.tuple ds))) := (rfl)
theorem atI_nn {α : Type} {xs : List α} {j : Int} (h : 0 ≤ j) : atI xs j = xs[j.toNat]? := by
  unfold atI ixN
  rw [if_pos h]
  by_cases hl : j < xs.length
  · rw [if_pos hl]; rfl
  · rw [if_neg hl]
    exact (List.getElem?_eq_none (by omega)).symm
theorem ixD_l {ds : List D} {j : Int} (h : 0 ≤ j) (e : ds[j.toNat]? = some d) : ixD (.list ds) (.int j) = .ok d := by simp only [ixD, atI_nn h, e]
theorem ixD_t {ds : List D} {j : Int} (h : 0 ≤ j) (e : ds[j.toNat]? = some d) : ixD (.tuple ds) (.int j) = .ok d := by simp only [ixD, atI_nn h, e]
@[simp] theorem ixD_t0 {a : D} {ds : List D} : ixD (.tuple (a :: ds)) (.int 0) = .ok a := ixD_t (by decide) rfl
@[simp] theorem ixD_t1 {a b : D} {ds : List D} : ixD (.tuple (a :: b :: ds)) (.int 1) = .ok b := ixD_t (by decide) rfl
@[simp] theorem ixD_t2 {a b c : D} {ds : List D} : ixD (.tuple (a :: b :: c :: ds)) (.int 2) = .ok c := ixD_t (by decide) rfl
@[simp] theorem ixD_t3 {a b c e : D} {ds : List D} : ixD (.tuple (a :: b :: c :: e :: ds)) (.int 3) = .ok e := ixD_t (by decide) rfl
@[simp] theorem ixD_l0 {a : D} {ds : List D} : ixD (.list (a :: ds)) (.int 0) = .ok a := ixD_l (by decide) rfl
@[simp] theorem ixD_l1 {a b : D} {ds : List D} : ixD (.list (a :: b :: ds)) (.int 1) = .ok b := ixD_l (by decide) rfl
@[simp] theorem rng1_e {j : Int} (h : -(2 ^ 62) ≤ j ∧ j < 2 ^ 62) : rng1 [.int j] = .ok (rngL 0 j.toNat) := if_pos h
/-! ### loops -/
@[simp] theorem forL_nil {bnd : D → Env → Option Env} : forL bnd f [] ρ = .next ρ := (rfl)
/-- a loop whose turns go on: a fold over what stands behind the slots -/
theorem forL_fold {α S : Type} {bnd : D → Env → Option Env} {body : YF} (enc : α → D) (st : S → Env) (step : S → α → S) : ∀ (xs : List α) (s : S), (∀ x ∈ xs, ∀ s, ∃ ρ', bnd (enc x) (st s) = some ρ' ∧ body ρ' = .next (st (step s x))) →
    forL bnd body (xs.map enc) (st s) = .next (st (xs.foldl step s))
  | [], s, _ => rfl
  | x :: xs, s, h => by
    obtain ⟨ρ', e1, e2⟩ := h x List.mem_cons_self s
    simp only [List.map_cons, forL, e1, e2]
    exact forL_fold enc st step xs _ fun y hy => h y (List.mem_cons_of_mem _ hy)
/-- .. with an invariant -/
theorem forL_foldI {α S : Type} {bnd : D → Env → Option Env} {body : YF} (enc : α → D) (st : S → Env) (step : S → α → S) (I : S → Prop) : ∀ (xs : List α) (s : S), I s → (∀ x ∈ xs, ∀ s, I s → I (step s x) ∧ ∃ ρ', bnd (enc x) (st s) = some ρ' ∧ body ρ' = .next (st (step s x))) →
    forL bnd body (xs.map enc) (st s) = .next (st (xs.foldl step s)) ∧ I (xs.foldl step s)
  | [], s, i, _ => ⟨rfl, i⟩
  | x :: xs, s, i, h => by
    obtain ⟨i', ρ', e1, e2⟩ := h x List.mem_cons_self s i
    simp only [List.map_cons, forL, e1, e2]
    exact forL_foldI enc st step I xs _ i' fun y hy => h y (List.mem_cons_of_mem _ hy)
/-- .. with an invariant over what is taken so far -/
theorem forL_inv {bnd : D → Env → Option Env} {body : YF} (I : List D → Env → Prop) : ∀ (ds pre : List D) (ρ : Env), I pre ρ → (∀ pre d ρ, d ∈ ds → I pre ρ → ∃ ρ' ρ2, bnd d ρ = some ρ' ∧ body ρ' = .next ρ2 ∧ I (pre ++ [d]) ρ2) →
    ∃ ρ2, forL bnd body ds ρ = .next ρ2 ∧ I (pre ++ ds) ρ2
  | [], pre, ρ, i, _ => ⟨ρ, rfl, by simpa using i⟩
  | d :: ds, pre, ρ, i, h => by
    obtain ⟨ρ', ρ2, e1, e2, i2⟩ := h pre d ρ List.mem_cons_self i
    simp only [forL, e1, e2]
    obtain ⟨ρ3, e3, i3⟩ := forL_inv I ds (pre ++ [d]) ρ2 i2 fun p e r hm hi => h p e r (List.mem_cons_of_mem _ hm) hi
    exact ⟨ρ3, e3, by simpa using i3⟩
theorem lcL_map {α : Type} {bnd : D → Env → Option Env} {gt : Env → R Bool} {ge : Env → R D} (enc : α → D) (p : α → Bool) (h : α → D) : ∀ (xs : List α), (∀ x ∈ xs, ∃ ρ', bnd (enc x) ρ = some ρ' ∧ gt ρ' = .ok (p x) ∧ (p x = true → ge ρ' = .ok (h x))) →
    lcL bnd gt ge ρ (xs.map enc) = .ok ((xs.filter p).map h)
  | [], _ => rfl
  | x :: xs, hh => by
    obtain ⟨ρ', e1, e2, e3⟩ := hh x List.mem_cons_self
    have ih := lcL_map enc p h xs fun y hy => hh y (List.mem_cons_of_mem _ hy)
    simp only [List.map_cons, lcL, e1, e2]
    cases q : p x with
    | true => rw [e3 q, ih]; simp [q]
    | false => simp [q, ih]
theorem lcL_all {α : Type} {bnd : D → Env → Option Env} {ge : Env → R D} (enc : α → D) (h : α → D) (xs : List α) (hh : ∀ x ∈ xs, ∃ ρ', bnd (enc x) ρ = some ρ' ∧ ge ρ' = .ok (h x)) :
    lcL bnd tYesX ge ρ (xs.map enc) = .ok (xs.map h) := by
  have := lcL_map (gt := tYesX) enc (fun _ => true) h xs fun x hx => let ⟨ρ', a, b⟩ := hh x hx; ⟨ρ', a, rfl, fun _ => b⟩
  rwa [List.filter_eq_self.mpr (by simp)] at this
theorem runF_ret {n : Nat} {fr : Bool} {body : YF} {ds : List D} (h : body (ds.map some ++ List.replicate (n - ds.length) none) = .ret d) : runF n fr body ds = .ok d := by unfold runF; rw [h]
/-- a list of ints is no longer than it may be -/
theorem small {n : Nat} (h : n ≤ 1000000) : n ≤ sizeLine := by rw [sizeLine_eq]; omega
theorem smallT {n : Nat} (h : n < 1000000) : n < sizeLine := by rw [sizeLine_eq]; omega
theorem shp_all {n : Nat} {ds : List D} (h : ∀ d ∈ ds, shp n d = true) : ds.all (shp n) = true := List.all_eq_true.mpr h
@[simp] theorem shp_ints {n : Nat} {ns : List Int} : (ns.map PyData.int).all (shp n) = true := by
  simp only [List.all_map, List.all_eq_true]
  intro x _; cases n <;> rfl
@[simp] theorem shp_int {n : Nat} {i : Int} : shp n (.int i) = true := by cases n <;> rfl
@[simp] theorem shp_bool {n : Nat} {i : Bool} : shp n (.bool i) = true := by cases n <;> rfl
@[simp] theorem shp_str {n : Nat} {i : Str} : shp n (.str i) = true := by cases n <;> rfl
@[simp] theorem shp_none {n : Nat} : shp n .none = true := by cases n <;> rfl
@[simp] theorem shp_lst {n : Nat} {ds : List D} : shp (n + 1) (.list ds) = ds.all (shp n) := (rfl)
@[simp] theorem shp_tup {n : Nat} {ds : List D} : shp (n + 1) (.tuple ds) = ds.all (shp n) := (rfl)
theorem eqvAll_self : ∀ ds : List D, (∀ d ∈ ds, PyData.eqv d d = true) → PyData.eqvAll ds ds = true
  | [], _ => rfl
  | d :: ds, h => by simp [PyData.eqvAll, h d List.mem_cons_self, eqvAll_self ds fun e he => h e (List.mem_cons_of_mem _ he)]
theorem eqv_self : ∀ (n : Nat) (d : D), shp n d = true → PyData.eqv d d = true
  | n, .none, _ => by simp [PyData.eqv]
  | n, .bool b, _ => by simp [PyData.eqv]
  | n, .int i, _ => by simp [PyData.eqv]
  | n, .str s, _ => by simp [PyData.eqv]
  | n, .dict k, h => by cases n <;> simp [shp] at h
  | 0, .list ds, h => by simp [shp] at h
  | 0, .tuple ds, h => by simp [shp] at h
  | n + 1, .list ds, h => by
    simp only [PyData.eqv]
    exact eqvAll_self ds fun d hd => eqv_self n d (List.all_eq_true.mp h d hd)
  | n + 1, .tuple ds, h => by
    simp only [PyData.eqv]
    exact eqvAll_self ds fun d hd => eqv_self n d (List.all_eq_true.mp h d hd)
theorem eqD_self {d : D} (h : shp 16 d = true) : eqD d d = .ok (.bool true) := by simp only [eqD, h, eqv_self 16 d h]; rfl
theorem neD_self {d : D} (h : shp 16 d = true) : neD d d = .ok (.bool false) := by simp only [neD, h, eqv_self 16 d h]; rfl
end
end MV

set_option Elab.async false
set_option linter.all false
set_option maxRecDepth 100000
set_option maxHeartbeats 4000000
namespace MV
open PySem L2
/-! ### slices, items, sums: more to reckon with -/
def cutG {α : Type} (xs : List α) (lo hi : Option Int) : List α := (xs.drop (HT.sIx xs.length 0 lo)).take (HT.sIx xs.length xs.length hi - HT.sIx xs.length 0 lo)
theorem cutD_eq (ds : List D) (lo hi : Option Int) : cutD ds lo hi = cutG ds lo hi := rfl
theorem cutG_map {α β : Type} (f : α → β) (xs : List α) (lo hi : Option Int) : cutG (xs.map f) lo hi = (cutG xs lo hi).map f := by
  unfold cutG; rw [List.length_map, ← List.map_drop, ← List.map_take]
theorem cutD_map {α : Type} (f : α → D) (xs : List α) (lo hi : Option Int) : cutD (xs.map f) lo hi = (cutG xs lo hi).map f := cutG_map f xs lo hi
theorem sIx_pos {n d : Nat} {v : Int} (h : 0 ≤ v) : HT.sIx n d (some v) = min v.toNat n := by
  show (if v < 0 then (v + (n : Int)).toNat else min v.toNat n) = _
  rw [if_neg (by omega)]
theorem sIx_no {n d : Nat} : HT.sIx n d none = d := rfl
theorem cutG_pp {α : Type} {xs : List α} {a b : Int} (ha : 0 ≤ a) (hb : 0 ≤ b) : cutG xs (some a) (some b) = (xs.drop a.toNat).take (b.toNat - a.toNat) := by
  unfold cutG
  rw [sIx_pos ha, sIx_pos hb]
  apply List.ext_getElem?
  intro i
  rw [List.getElem?_take, List.getElem?_take, List.getElem?_drop, List.getElem?_drop]
  by_cases h1 : a.toNat ≤ xs.length
  · rw [Nat.min_eq_left h1]
    by_cases h2 : i < b.toNat - a.toNat
    · by_cases h3 : i < min b.toNat xs.length - a.toNat
      · rw [if_pos h2, if_pos h3]
      · rw [if_pos h2, if_neg h3, List.getElem?_eq_none (by omega)]
    · rw [if_neg h2, if_neg (by omega)]
  · rw [if_neg (by omega)]
    split
    · rw [List.getElem?_eq_none (by omega)]
    · rfl
theorem cutG_pn {α : Type} {xs : List α} {a : Int} (ha : 0 ≤ a) : cutG xs (some a) none = xs.drop a.toNat := by
  unfold cutG
  rw [sIx_pos ha, sIx_no]
  by_cases h1 : a.toNat ≤ xs.length
  · rw [Nat.min_eq_left h1, ← List.length_drop, List.take_length]
  · rw [Nat.min_eq_right (by omega), List.drop_length, List.drop_eq_nil_of_le (by omega), List.take_nil]
theorem cutG_np {α : Type} {xs : List α} {b : Int} (hb : 0 ≤ b) : cutG xs none (some b) = xs.take b.toNat := by
  unfold cutG
  rw [sIx_pos hb, sIx_no, List.drop_zero, Nat.sub_zero]
  by_cases h1 : b.toNat ≤ xs.length
  · rw [Nat.min_eq_left h1]
  · rw [Nat.min_eq_right (by omega), List.take_length, List.take_of_length_le (by omega)]
theorem cutG_nn {α : Type} {xs : List α} : cutG xs none none = xs := by
  unfold cutG; rw [sIx_no, sIx_no, List.drop_zero, Nat.sub_zero, List.take_length]
theorem cutG_mem {α : Type} {xs : List α} {lo hi : Option Int} {x : α} (h : x ∈ cutG xs lo hi) : x ∈ xs := List.mem_of_mem_drop (List.mem_of_mem_take h)
theorem cutG_len {α : Type} {xs : List α} {lo hi : Option Int} : (cutG xs lo hi).length ≤ xs.length := by
  unfold cutG; rw [List.length_take, List.length_drop]; omega
@[simp] theorem slD_l {ds : List D} {lo hi : Option Int} : slD (.list ds) lo hi = .ok (.list (cutD ds lo hi)) := rfl
@[simp] theorem slD_t {ds : List D} {lo hi : Option Int} : slD (.tuple ds) lo hi = .ok (.tuple (cutD ds lo hi)) := rfl
@[simp] theorem slL_l {ds : List D} {lo hi : Option Int} : slL (.list ds) lo hi = .ok (.list (cutD ds lo hi)) := rfl
theorem perm_sum {xs ys : List Int} (h : xs.Perm ys) : xs.sum = ys.sum := by
  induction h with
  | nil => rfl
  | cons x _ ih => simp [ih]
  | swap x y l => simp; omega
  | trans _ _ a b => exact a.trans b
/-- the item of a list of ints, or 0 -/
def cell (ns : List Int) (k : Nat) : Int := ns.getD k 0
theorem cell_get {ns : List Int} {k : Nat} (h : k < ns.length) : (ns.map PyData.int)[k]? = some (.int (cell ns k)) := by
  rw [List.getElem?_map, List.getElem?_eq_getElem h]
  simp [cell, List.getD_eq_getElem?_getD, List.getElem?_eq_getElem h]
theorem cell_none {ns : List Int} {k : Nat} (h : ns.length ≤ k) : cell ns k = 0 := by
  simp [cell, List.getD_eq_getElem?_getD, List.getElem?_eq_none h]
theorem forL_ixA {α : Type} {bnd : D → Env → Option Env} {body : YF} (enc : α → D) (I : Nat → Env → Prop) (P : Out → Prop) : ∀ (xs : List α) (k : Nat) (ρ : Env), I k ρ →
    (∀ i x ρ, xs[i]? = some x → I (k + i) ρ → ∃ ρ', bnd (enc x) ρ = some ρ' ∧ ((∃ ρ2, (body ρ' = .next ρ2 ∨ body ρ' = .cnt ρ2) ∧ I (k + i + 1) ρ2) ∨ ((∀ ρ2, body ρ' ≠ .next ρ2 ∧ body ρ' ≠ .cnt ρ2 ∧ body ρ' ≠ .brk ρ2) ∧ P (body ρ')))) →
    (∃ ρ2, forL bnd body (xs.map enc) ρ = .next ρ2 ∧ I (k + xs.length) ρ2) ∨ P (forL bnd body (xs.map enc) ρ)
  | [], k, ρ, i, _ => .inl ⟨ρ, rfl, i⟩
  | x :: xs, k, ρ, i, h => by
    obtain ⟨ρ', e1, ⟨ρ2, e2, i2⟩ | ⟨n, p⟩⟩ := h 0 x ρ rfl i
    · have e3 : forL bnd body ((x :: xs).map enc) ρ = forL bnd body (xs.map enc) ρ2 := by
        rcases e2 with e2 | e2 <;> simp only [List.map_cons, forL, e1, e2]
      rw [e3]
      have := forL_ixA enc I P xs (k + 1) ρ2 i2 fun i y ρ hy hi => by
        have := h (i + 1) y ρ (by simpa using hy) (by rw [show k + (i + 1) = k + 1 + i by omega]; exact hi)
        rwa [show k + (i + 1) + 1 = k + 1 + i + 1 by omega] at this
      rwa [show k + 1 + xs.length = k + (x :: xs).length by simp; omega] at this
    · refine .inr ?_
      simp only [List.map_cons, forL, e1]
      cases q : body ρ' with
      | next r => exact absurd q (n r).1
      | cnt r => exact absurd q (n r).2.1
      | brk r => exact absurd q (n r).2.2
      | ret d => rw [q] at p; exact p
      | exc m r => rw [q] at p; exact p
      | stuck => rw [q] at p; exact p
/-- a loop that goes on, by an invariant over the turn -/
theorem forL_ix {α : Type} {bnd : D → Env → Option Env} {body : YF} (enc : α → D) (I : Nat → Env → Prop) (xs : List α) (ρ : Env) (h0 : I 0 ρ)
    (h : ∀ i x ρ, xs[i]? = some x → I i ρ → ∃ ρ' ρ2, bnd (enc x) ρ = some ρ' ∧ (body ρ' = .next ρ2 ∨ body ρ' = .cnt ρ2) ∧ I (i + 1) ρ2) :
    ∃ ρ2, forL bnd body (xs.map enc) ρ = .next ρ2 ∧ I xs.length ρ2 := by
  have := forL_ixA enc I (fun _ => False) xs 0 ρ h0 fun i x ρ hx hi => by
    obtain ⟨ρ', ρ2, a, b, c⟩ := h i x ρ hx (by simpa using hi)
    exact ⟨ρ', a, .inl ⟨ρ2, b, by simpa using c⟩⟩
  simpa using this
/-- .. that may leave with a value -/
theorem forL_ixR {α : Type} {bnd : D → Env → Option Env} {body : YF} (enc : α → D) (I : Nat → Env → Prop) (P : D → Prop) (xs : List α) (ρ : Env) (h0 : I 0 ρ)
    (h : ∀ i x ρ, xs[i]? = some x → I i ρ → ∃ ρ', bnd (enc x) ρ = some ρ' ∧ ((∃ ρ2, (body ρ' = .next ρ2 ∨ body ρ' = .cnt ρ2) ∧ I (i + 1) ρ2) ∨ ∃ d, body ρ' = .ret d ∧ P d)) :
    (∃ ρ2, forL bnd body (xs.map enc) ρ = .next ρ2 ∧ I xs.length ρ2) ∨ ∃ d, forL bnd body (xs.map enc) ρ = .ret d ∧ P d := by
  have := forL_ixA enc I (fun o => ∃ d, o = .ret d ∧ P d) xs 0 ρ h0 fun i x ρ hx hi => by
    obtain ⟨ρ', a, b | ⟨d, e, p⟩⟩ := h i x ρ hx (by simpa using hi)
    · exact ⟨ρ', a, .inl (by simpa using b)⟩
    · exact ⟨ρ', a, .inr ⟨fun r => by rw [e]; simp, d, e, p⟩⟩
  simpa using this
@[simp] theorem shp_ints' {n : Nat} {ns : List Int} : ns.all (shp n ∘ PyData.int) = true := by
  simp only [List.all_eq_true]
  intro x _; cases n <;> rfl
theorem take_succ_map {α β : Type} (f : α → β) {xs : List α} {i : Nat} {x : α} (h : xs[i]? = some x) : (xs.take (i + 1)).map f = (xs.take i).map f ++ [f x] := by
  rw [List.take_add_one, h]; simp
/-- a loop that looks through: it leaves with `d` at the first turn that fails `p` -/
theorem forL_all {α : Type} {bnd : D → Env → Option Env} {body : YF} (enc : α → D) (I : Env → Prop) (p : α → Bool) (d : D) : ∀ (xs : List α) (ρ : Env), I ρ →
    (∀ x ∈ xs, ∀ ρ, I ρ → ∃ ρ', bnd (enc x) ρ = some ρ' ∧ (p x = true → ∃ ρ2, (body ρ' = .next ρ2 ∨ body ρ' = .cnt ρ2) ∧ I ρ2) ∧ (p x = false → body ρ' = .ret d)) →
    (xs.all p = true → ∃ ρ2, forL bnd body (xs.map enc) ρ = .next ρ2 ∧ I ρ2) ∧ (xs.all p = false → forL bnd body (xs.map enc) ρ = .ret d)
  | [], ρ, i, _ => ⟨fun _ => ⟨ρ, rfl, i⟩, fun h => by simp at h⟩
  | x :: xs, ρ, i, h => by
    obtain ⟨ρ', e1, e2, e3⟩ := h x List.mem_cons_self ρ i
    cases hp : p x with
    | false =>
      refine ⟨fun q => by simp [hp] at q, fun _ => ?_⟩
      simp only [List.map_cons, forL, e1, e3 hp]
    | true =>
      obtain ⟨ρ2, e4, i2⟩ := e2 hp
      have e5 : forL bnd body ((x :: xs).map enc) ρ = forL bnd body (xs.map enc) ρ2 := by
        rcases e4 with e4 | e4 <;> simp only [List.map_cons, forL, e1, e4]
      rw [e5]
      have := forL_all enc I p d xs ρ2 i2 fun y hy => h y (List.mem_cons_of_mem _ hy)
      simpa [hp] using this
theorem rng1_n (n : Nat) (h : n ≤ 1000000) : rng1 [.int n] = .ok ((List.range n).map fun (i : Nat) => PyData.int (i : Int)) := by
  rw [rng1_e (by omega)]; simp [rngL]

end MV

set_option Elab.async false
set_option linter.all false
set_option maxRecDepth 100000
set_option maxHeartbeats 4000000
namespace MV
open PySem L2
section
variable {X : Cx} {W : WX} {B Ω : List Nat} {k : Nat} {a b c e o : Expr} {es : List Expr} {ga gb gc : Env → R D} {gs : Env → R (List D)} {pos p apos : Pos}
/-! ### methods of texts -/
theorem px_m1 {id : String} {name : Str} {r : V → List V → Hp → VK → Prop} {f : Str → D → R D} (slot : Slot "str" name id) (ty : typeOf (.builtin id) = pure (.type "method_descriptor")) (rule : MtR X id r)
    (hn : ∀ z y n, f z y ≠ .exc n) (hr : ∀ (O : List Addr) (H : Hp) (z : Str) (u : V) (y d : D) (Q : VK), (∀ a ∈ O, H a ≠ none) → PyData.strOk z = true → Rs X.fr O H H u y → f z y = .ok d → (∀ v H', Same H H' → Rp X.fr O H' v d → Q v H') → r (.str z) [u] H Q)
    (ho : PX X W B Ω o ga) (he : PB X W B Ω e gb) (hs : starEach [e] X.env = [(false, eval e X.env)] := by rfl) (hbase : attributeBase o name X.env (eval o X.env) = eval o X.env := by rfl) (hline : (apos.endLine == pos.line) = true := by rfl) :
    PX X W B Ω (.Call (.Attribute o name apos) [e] [] pos) (xM1 f ga gb) :=
  PE.imp (pe_m1 slot ty rule ho he hs hbase hline) fun σ H Q h => m1_run hn hr h
def findS (a : Str) : D → R D
  | .str b => .ok (.int (Txt.find a b))
  | _ => .stuck
def startsS (a : Str) : D → R D
  | .str b => .ok (.bool (Txt.startswith a b))
  | _ => .stuck
def zfillS (a : Str) : D → R D
  | .int i => okIf (PadOk i && PyData.strOk (Txt.zfill a i)) (.str (Txt.zfill a i))
  | _ => .stuck
theorem px_find (ho : PX X W B Ω o ga) (he : PB X W B Ω e gb) (hs : starEach [e] X.env = [(false, eval e X.env)] := by rfl) (hbase : attributeBase o "find" X.env (eval o X.env) = eval o X.env := by rfl) (hline : (apos.endLine == pos.line) = true := by rfl) :
    PX X W B Ω (.Call (.Attribute o "find" apos) [e] [] pos) (xM1 findS ga gb) :=
  px_m1 F.slot_str_find F.type_str_find mt_find (fun z y n => by cases y <;> simp [findS]) (fun O H z u y d Q ht hz hy e q => by
    cases y <;> simp only [findS] at e <;> cases e
    obtain ⟨rfl, _⟩ := hy.str
    exact ⟨_, _, rfl, rfl, q _ H Same.refl (.int _)⟩) ho he hs hbase hline
theorem px_starts (ho : PX X W B Ω o ga) (he : PB X W B Ω e gb) (hs : starEach [e] X.env = [(false, eval e X.env)] := by rfl) (hbase : attributeBase o "startswith" X.env (eval o X.env) = eval o X.env := by rfl) (hline : (apos.endLine == pos.line) = true := by rfl) :
    PX X W B Ω (.Call (.Attribute o "startswith" apos) [e] [] pos) (xM1 startsS ga gb) :=
  px_m1 F.slot_str_startswith F.type_str_startswith mt_startswith (fun z y n => by cases y <;> simp [startsS]) (fun O H z u y d Q ht hz hy e q => by
    cases y <;> simp only [startsS] at e <;> cases e
    obtain ⟨rfl, _⟩ := hy.str
    exact ⟨_, _, rfl, rfl, q _ H Same.refl (.bl _)⟩) ho he hs hbase hline
theorem px_zfill (ho : PX X W B Ω o ga) (he : PB X W B Ω e gb) (hs : starEach [e] X.env = [(false, eval e X.env)] := by rfl) (hbase : attributeBase o "zfill" X.env (eval o X.env) = eval o X.env := by rfl) (hline : (apos.endLine == pos.line) = true := by rfl) :
    PX X W B Ω (.Call (.Attribute o "zfill" apos) [e] [] pos) (xM1 zfillS ga gb) :=
  px_m1 F.slot_str_zfill F.type_str_zfill mt_zfill (fun z y n => by cases y <;> simp only [zfillS] <;> (try unfold okIf) <;> (try split) <;> simp) (fun O H z u y d Q ht hz hy e q => by
    cases y <;> simp only [zfillS] at e <;> try cases e
    obtain ⟨c, rfl⟩ := okIf_ok e
    rw [Bool.and_eq_true] at c
    obtain rfl := hy.int
    exact ⟨_, _, rfl, rfl, c.1, q _ H Same.refl (.str _ c.2)⟩) ho he hs hbase hline
/-! ### isinstance with two classes -/
def isi2F (T U : String) : D → R D := fun d => okIf (noDct d) (.bool (isiD T d || isiD U d))
theorem px_isi2 {T U : String} {pT pU p2 : Pos} {x2 : Nat} {nT nU : Str} (hg : Gl X "isinstance") (hm : X.mg "isinstance" = none) (hgT : Gl X nT) (hmT : X.mg nT = none) (hvT : bootBuiltins nT = some (.type T)) (hT : okTy T = true)
    (hgU : Gl X nU) (hmU : X.mg nU = none) (hvU : bootBuiltins nU = some (.type U)) (hU : okTy U = true) (ha : PB X W B Ω a ga)
    (hn : nT ≠ "__name__" := by decide) (hd : (nT == ("__debug__" : Str)) = false := by decide) (hn2 : nU ≠ "__name__" := by decide) (hd2 : (nU == ("__debug__" : Str)) = false := by decide)
    (hs : starEach [a, .Tuple [.Name nT pT, .Name nU pU] x2 p2] X.env = (false, eval a X.env) :: starEach [.Tuple [.Name nT pT, .Name nU pU] x2 p2] X.env := by rfl)
    (hs2 : starEach [.Tuple [.Name nT pT, .Name nU pU] x2 p2] X.env = (false, eval (.Tuple [.Name nT pT, .Name nU pU] x2 p2) X.env) :: starEach [] X.env := by rfl)
    (hs3 : starEach [.Name nT pT, .Name nU pU] X.env = (false, eval (.Name nT pT) X.env) :: starEach [.Name nU pU] X.env := by rfl) (hs4 : starEach [.Name nU pU] X.env = (false, eval (.Name nU pU) X.env) :: starEach [] X.env := by rfl)
    (hpl : (backTo pos (starEach [.Tuple [.Name nT pT, .Name nU pU] x2 p2] X.env)).any (·.1) = false := by rfl) :
    PX X W B Ω (.Call (.Name "isinstance" p) [a, .Tuple [.Name nT pT, .Name nU pU] x2 p2] [] pos) (x1 (isi2F T U) ga) := by
  refine PE.imp (pe_callB call_isiT hg hm (by decide +kernel) (pa_cons ha (pa_cons (pe_tup (pa_cons (pe_bltn (v := .ty T) hgT hmT hvT rfl hn hd) (pa_cons (pe_bltn (v := .ty U) hgU hmU hvU rfl hn2 hd2) pa_nil hs4) hs3)) pa_nil hs2) hs) (by decide) (by decide) hs hpl) fun σ H Q ⟨H0, O0, O, ρ, S, h⟩ => ⟨H0, O0, O, ρ, S, Good.bind (f := isi2F T U) h fun d v H1 e s1 r1 h1 => ?_⟩
  obtain ⟨z, ez⟩ := h1.ok_of fun n hn => by simp [isi2F] at hn
  rw [ez] at h1
  obtain ⟨nd, rfl⟩ := okIf_ok ez
  refine ⟨small (by simp), fun q hq => ?_⟩
  have sm := same_upd (o := .tup [V.ty T, V.ty U]) hq
  have r2 : Rs X.fr O (upd H1 q (.tup [V.ty T, V.ty U])) (upd H1 q (.tup [V.ty T, V.ty U])) v d := Rs.ge sm (Ge.of_same sm) r1
  have k1 := isi_kit (K := X.fr) hT d
  have k2 := isi_kit (K := X.fr) hU d
  refine ⟨v, q, [.ty T, .ty U], _, [.type T, .type U], isiD T d || isiD U d, rfl, upd_same, .cons (.ty T) (.cons (.ty U) .nil), rs_ty r2 nd, ?_, h1 _ _ sm (.bl _)⟩
  simp only [PySem.W.kitAny, k1, k2]
  cases isiD T d <;> cases isiD U d <;> rfl
end
section
variable {ρ : Env} {ga gb : Env → R D} {z : Str} {y : D}
@[simp] theorem xM1_e {f : Str → D → R D} : xM1 f ga gb ρ = (ga ρ).bind fun x => match x with | .str z => (gb ρ).bind (f z) | _ => .stuck := (rfl)
@[simp] theorem findS_e {a b : Str} : findS a (.str b) = .ok (.int (Txt.find a b)) := (rfl)
@[simp] theorem startsS_e {a b : Str} : startsS a (.str b) = .ok (.bool (Txt.startswith a b)) := (rfl)
theorem isi2F_e {T U : String} {d : D} (h : noDct d = true) : isi2F T U d = .ok (.bool (isiD T d || isiD U d)) := by simp only [isi2F, h]; rfl
@[simp] theorem isi2F_non {T U : String}  : isi2F T U .none = .ok (.bool (isiD T .none || isiD U .none)) := (rfl)
@[simp] theorem isi2F_bool {T U : String} {b : Bool} : isi2F T U (.bool b) = .ok (.bool (isiD T (.bool b) || isiD U (.bool b))) := (rfl)
@[simp] theorem isi2F_int {T U : String} {i : Int} : isi2F T U (.int i) = .ok (.bool (isiD T (.int i) || isiD U (.int i))) := (rfl)
@[simp] theorem isi2F_str {T U : String} {z : Str} : isi2F T U (.str z) = .ok (.bool (isiD T (.str z) || isiD U (.str z))) := (rfl)
@[simp] theorem isi2F_list {T U : String} {ds : List D} : isi2F T U (.list ds) = .ok (.bool (isiD T (.list ds) || isiD U (.list ds))) := (rfl)
@[simp] theorem isi2F_tuple {T U : String} {ds : List D} : isi2F T U (.tuple ds) = .ok (.bool (isiD T (.tuple ds) || isiD U (.tuple ds))) := (rfl)
end
end MV

set_option Elab.async false
set_option linter.all false
set_option maxRecDepth 100000
set_option maxHeartbeats 4000000
namespace MV.T
open PySem PySem.Calls PyProof.Rows PySem.SeqAt PySem.W
section
variable {A : Around} {s : Shared}
/-- the call of tuple's own __lt__, as sorting makes it -/
theorem call_tuple_lt' {prog : Program} {w : World} {E : Value → Shared → Prop} {Q : Value → Shared → Prop} {l b : Addr} {items items2 : Array Value} {e r : Nat → Bool} (hl : s.heap.IsTuple l items) (hb : s.heap.IsTuple b items2)
    (he : ∀ j (h1 : j < items.size) (h2 : j < items2.size), EqAt A.in1 s items[j] items2[j] (e j)) (hr : ∀ j (h1 : j < items.size) (h2 : j < items2.size), e j = false → RcLt A.in1 s items[j] items2[j] (r j))
    (h : Q (.bool (firstLt e r (decide (items.size < items2.size)) (List.range (min items.size items2.size)))) s) : wpAny (model prog w) A (call (.builtin "tuple.__lt__") [.ref l, .ref b]) Q E s := by
  obtain ⟨⟨cls, dd, data, sl⟩, ho, hc, n, hd⟩ := id hl
  obtain ⟨⟨cls2, dd2, data2, sl2⟩, ho2, hc2, n2, hd2⟩ := id hb
  simp only at hc hd hc2 hd2
  subst hc hd hc2 hd2
  exact call_meets F.slot_tuple_lt ⟨_, ho, rfl⟩ F.entry_tuple_lt (F.args_tuple_lt_2 _ _) (tuple_ltAt l b items items2 n n2 dd dd2 sl sl2 e r) ⟨ho, ho2, he, hr, h⟩
end
section
variable {prog : Program} {w : World} {A : Around} {E : Value → Shared → Prop} {s : Shared}
theorem oneLt_tup {xs ys : List PyData} {a b : Value} {as bs : List Addr} {Q : Bool → Shared → Prop} (ra : Reads s.heap a (.tuple xs) as) (rb : Reads s.heap b (.tuple ys) bs) (h : alike (.tuple xs) (.tuple ys) = true)
    (hu : A.units + min (PyData.tuple xs).depth (PyData.tuple ys).depth < cLine) (hq : Q (dataLt (.tuple xs) (.tuple ys)) s) : wpAny (model prog w) A (oneLt' true a b) Q E s := by
  have hal : alikeAll xs ys = true := by simpa [alike] using h
  cases ra with
  | @tuple l o vs n _ as₁ h1 h2 h3 h4 =>
    cases rb with
    | @tuple l' o' vs' n' _ bs₁ k1 k2 k3 k4 =>
      have n1 : vs.size = xs.length := by simpa using ReadsAll.length _ _ _ h4
      have n2 : vs'.size = ys.length := by simpa using ReadsAll.length _ _ _ k4
      rw [dataLt_tuple, ← firstLt_toks xs ys hal, ← n1, ← n2] at hq
      rw [oneLt'_eq]
      simp only [if_true]
      refine wpAny_bind (wpAny_cRoomFor (room_here hu) ?_)
      refine wpAny_bind (wpAny_callSpecialIfBound?_slot (T := "tuple") ⟨_, h1, h2⟩ F.slot_tuple_lt (call_tuple_lt' (e := pairEq xs ys) (r := fun j => dataLt (xs.getD j .none) (ys.getD j .none)) ⟨_, h1, h2, _, h3⟩ ⟨_, k1, k2, _, k3⟩ (fun j j1 j2 => ?_) (fun j j1 j2 hj => ?_) ?_))
      · have := eqAt_alikeAll xs ys A.in1 s vs.toList vs'.toList _ _ h4 k4 hal (room_in hu) j (by simpa using j1) (by simpa using j2)
        simpa using this
      · have := rcLt_alikeAll xs ys A.in1 s vs.toList vs'.toList _ _ h4 k4 hal (room_in hu) j (by simpa using j1) (by simpa using j2) hj
        simpa using this
      · exact wpAny_truthy_bool hq
def nonE : PyData → Bool
  | .tuple [] => false
  | _ => true
theorem firsts_any {M : Model} : ∀ {vs : List Value} {ds : List PyData}, EachIs (fun v d => ∃ as, Reads s.heap v d as) vs ds → (∀ d, d ∈ ds → ∃ xs, d = .tuple xs) → ∃ fs : List (Option Value), fs.map (·.isSome) = ds.map nonE ∧ ∀ {Q : List (Option Value) → Shared → Prop}, Q fs s → wpAny M A (vs.mapM firstOfTuple') Q E s
  | _, _, .nil, _ => ⟨[], rfl, fun h => by rw [List.mapM_nil]; exact wpAny_pure h⟩
  | _, _, .cons (a := v) (as := vs) (b := d) ⟨as, r⟩ t, ht => by
    obtain ⟨fs, h1, h2⟩ := firsts_any (M := M) t fun d hd => ht d (List.mem_cons_of_mem _ hd)
    obtain ⟨xs, rfl⟩ := ht d (List.mem_cons_self ..)
    cases r with
    | @tuple l o us n _ _ ho hc hd hr =>
      refine ⟨us[0]? :: fs, ?_, fun {Q} hq => ?_⟩
      · rw [List.map_cons, List.map_cons, h1]
        congr 1
        cases q : us.toList with
        | nil =>
          rw [q] at hr
          cases hr
          have : us[0]? = none := by rw [← Array.getElem?_toList, q]; rfl
          rw [this]; rfl
        | cons f fr =>
          rw [q] at hr
          cases hr with
          | cons r1 r2 =>
            have : us[0]? = some f := by rw [← Array.getElem?_toList, q]; rfl
            rw [this]; rfl
      · rw [List.mapM_cons]
        refine wpAny_bind ?_
        rw [kas_first_eq]
        refine wpAny_bind (Looks.here (show Looks M s.heap (typeOf (.ref l)) o.cls from (Looks.ld ho).andThen .now) ?_)
        rw [hc, if_neg (by first | decide | simp)]
        refine wpAny_bind (listItems_at ho hd (wpAny_pure ?_))
        exact wpAny_bind (h2 (Q := fun bs s' => wpAny M A (pure (us[0]? :: bs)) Q E s') (wpAny_pure hq))
theorem types_any {M : Model} {vs : List Value} {ds : List PyData} (e : EachIs (fun v d => ∃ as, Reads s.heap v d as) vs ds) (ht : ∀ d, d ∈ ds → ∃ xs, d = .tuple xs) : ∀ v ∈ vs, Looks M s.heap (typeOf v) (Value.type "tuple") := fun v hv => by
  obtain ⟨d, hd, as, r⟩ := e.left v hv
  obtain ⟨xs, rfl⟩ := ht d hd
  exact looks_reads r
/-- alike tuples, empty ones too, can be sorted -/
theorem SortsAt_tups {vs : List Value} {ds : List PyData} (e : EachIs (fun v d => ∃ as, Reads s.heap v d as) vs ds) (hal : AllAlike ds) (ht : ∀ d, d ∈ ds → ∃ xs, d = .tuple xs) (hu : ∀ d, d ∈ ds → A.units + d.depth < cLine) : SortsAt prog w A s (dataKind s.heap ds) vs := by
  by_cases hall : ∀ d, d ∈ ds → ∃ x r, d = .tuple (x :: r)
  · exact SortsAt.data e hal (.inl hall) hu
  · have room : ∀ {d d' : PyData}, d ∈ ds → A.units + min d.depth d'.depth < cLine := fun {d d'} hd => Nat.lt_of_le_of_lt (Nat.add_le_add_left (Nat.min_le_left _ _) _) (hu d hd)
    obtain ⟨fs, f1, f2⟩ := firsts_any (M := model prog w) (A := A) (E := fun _ _ => False) e ht
    have hsome : (fs.toArray.all fun x => x.isSome) = false := by
      rw [Bool.eq_false_iff]
      intro q
      apply hall
      intro d hd
      obtain ⟨xs, rfl⟩ := ht d hd
      cases xs with
      | cons x r => exact ⟨x, r, rfl⟩
      | nil =>
        exfalso
        have hm : false ∈ ds.map nonE := List.mem_map.mpr ⟨.tuple [], hd, rfl⟩
        rw [← f1] at hm
        obtain ⟨x, hx, ex⟩ := List.mem_map.mp hm
        rw [List.all_toArray, List.all_eq_true] at q
        rw [q x hx] at ex
        cases ex
    refine ⟨fun v hv => ?_, ?_⟩
    · obtain ⟨d, hd, as, r⟩ := e.left v hv
      exact ⟨_, dataKind_some hal hd r⟩
    · by_cases h0 : (fs.toArray[0]?.bind id).isSome = true
      · refine ⟨general', ?_, fun h2 E Q hq => ?_⟩
        · intro E x y a b Q ha hb hq
          obtain ⟨d, as, hd, ra, rfl⟩ := dataKind_inv ha
          obtain ⟨d', as', hd', rb, rfl⟩ := dataKind_inv hb
          obtain ⟨xs, rfl⟩ := ht d hd
          show wpAny (model prog w) A (oneLt' false x y) Q E s
          exact oneLt_alike (fun z => by cases z) ra rb (hal _ hd d' hd') (by simp) (room hd) hq
        · obtain ⟨fs', f1', f2'⟩ := firsts_any (M := model prog w) (A := A) (E := E) e ht
          have hs' : (fs'.toArray.all fun x => x.isSome) = false := by
            rw [List.all_toArray] at hsome ⊢
            rw [show fs'.all (fun x => x.isSome) = (fs'.map (·.isSome)).all id by simp [List.all_map], f1', ← f1]
            simpa [List.all_map] using hsome
          have h0' : (fs'.toArray[0]?.bind id).isSome = true := by
            have := congrArg (fun L => L[0]?) (f1.trans f1'.symm)
            simp only [List.getElem?_map, List.getElem?_toArray] at this h0 ⊢
            cases a : fs[0]? with
            | none => rw [a] at h0; simp at h0
            | some x =>
              rw [a] at h0 this
              cases b : fs'[0]? with
              | none => rw [b] at this; simp at this
              | some y =>
                rw [b] at this
                simp only [Option.map_some, Option.some.injEq] at this
                simp only [Option.bind_some, id] at h0 ⊢
                rw [← this]; exact h0
          rw [keyKind'_eq, List.mapM_toArray, map_eq_pure_bind]
          refine wpAny_bind (wpAny_bind (f2' (wpAny_pure ?_)))
          rw [if_neg (by rw [hs']; simp), if_pos h0']
          exact wpAny_pure hq
      · refine ⟨oneType', ?_, fun h2 E Q hq => ?_⟩
        · intro E x y a b Q ha hb hq
          obtain ⟨d, as, hd, ra, rfl⟩ := dataKind_inv ha
          obtain ⟨d', as', hd', rb, rfl⟩ := dataKind_inv hb
          have hdd := hal _ hd d' hd'
          have hroom := room (d' := d') hd
          obtain ⟨xs, rfl⟩ := ht d hd
          obtain ⟨ys, rfl⟩ := ht d' hd'
          rw [keyLt'_oneType]
          exact oneLt_tup ra rb hdd hroom hq
        · obtain ⟨fs', f1', f2'⟩ := firsts_any (M := model prog w) (A := A) (E := E) e ht
          have hs' : (fs'.toArray.all fun x => x.isSome) = false := by
            rw [List.all_toArray] at hsome ⊢
            rw [show fs'.all (fun x => x.isSome) = (fs'.map (·.isSome)).all id by simp [List.all_map], f1', ← f1]
            simpa [List.all_map] using hsome
          have h0' : ¬ (fs'.toArray[0]?.bind id).isSome = true := by
            intro hx
            apply h0
            have := congrArg (fun L => L[0]?) (f1.trans f1'.symm)
            simp only [List.getElem?_map, List.getElem?_toArray] at this hx ⊢
            cases a : fs'[0]? with
            | none => rw [a] at hx; simp at hx
            | some x =>
              rw [a] at hx this
              cases b : fs[0]? with
              | none => rw [b] at this; simp at this
              | some y =>
                rw [b] at this
                simp only [Option.map_some, Option.some.injEq] at this
                simp only [Option.bind_some, id] at hx ⊢
                rw [this]; exact hx
          rw [keyKind'_eq, List.mapM_toArray, map_eq_pure_bind]
          refine wpAny_bind (wpAny_bind (f2' (wpAny_pure ?_)))
          rw [if_neg (by rw [hs']; simp), if_neg h0']
          rw [oneTypeOnly'_eq, List.mapM_toArray, map_eq_pure_bind]
          refine wpAny_bind (wpAny_bind (wpAny_bind (kas_mapM (r := Value.type "tuple") _ (fun v hv Q' hq => (types_any e ht v hv).here hq) (wpAny_pure ?_))))
          obtain ⟨v₁, rest, rfl⟩ : ∃ v₁ rest, vs = v₁ :: rest := by
            match vs, h2 with
            | [], h2 => simp at h2
            | v₁ :: rest, _ => exact ⟨v₁, rest, rfl⟩
          have hall : ((List.map (fun _ => Value.type "tuple") (v₁ :: rest)).toArray.all fun x => x == Value.type "tuple") = true := by
            simp only [List.all_toArray, List.all_map, List.all_eq_true]
            intro _ _
            exact beq_self_eq_true _
          have hz : (List.map (fun _ => Value.type "tuple") (v₁ :: rest)).toArray[0]? = some (Value.type "tuple") := by simp
          rw [hz]
          simp only [hall, if_true]
          exact wpAny_pure (wpAny_pure hq)
end
end MV.T

set_option Elab.async false
set_option linter.all false
set_option maxRecDepth 100000
set_option maxHeartbeats 4000000
namespace MV
open PySem L2
section
variable {X : Cx} {pins : List (Addr × Obj)} {σ : St} {H H' : Hp} {s : Shared}
/-- an untracked thing of ours is tracked from here on -/
theorem inv_track {a : Addr} {o : HO} (I : Inv X pins σ H s) (F : FpOk X pins H a) (ha : X.s_0.heap.objs.size ≤ a) (new : ObjOk X.prog X.w (upd H a o) s.heap a o) : Inv X pins σ (upd H a o) s := by
  obtain ⟨hn, hL, hfs, _, hc, hp⟩ := F
  have ne : ∀ {b : Addr} {u : HO}, H b = some u → b ≠ a := fun e => ne_of_none e hn
  refine ⟨I.ok, I.os, I.bare, ⟨I.base.keep, I.base.slot, fun b ob q n hx => ?_, I.base.there, fun b xs q => ?_, fun b ob u q => ?_, fun b ps q => ?_⟩, I.loc, I.cell, ?_, fun x c e => ?_, fun p hp' => ?_, fun b u e => ?_, I.len⟩
  · have := Heap.lt_size q
    rw [upd_ne (fun z => by subst z; exact absurd this (Nat.not_lt.mpr ha))]; exact I.base.free b ob q n hx
  · have := I.base.tups b xs q
    rw [upd_ne (ne this)]; exact this
  · have := I.base.frzs b ob u q
    rw [upd_ne (ne this)]; exact this
  · obtain ⟨more, e⟩ := I.base.tbls b ps q
    exact ⟨more, by rw [upd_ne (ne e)]; exact e⟩
  · rw [upd_ne (Ne.symm hL)]; exact I.free
  · rw [upd_ne (hc x c e)]; exact I.freeC x c e
  · obtain ⟨e1, e2, e3⟩ := I.pin p hp'
    exact ⟨e1, by rw [upd_ne (hp p hp')]; exact e2, e3⟩
  · by_cases hb : b = a
    · subst hb; rw [upd_same] at e; cases e; exact new
    · rw [upd_ne hb] at e
      exact (I.hok b u e).stay (fun c v _ q => q) (fun c q => by rw [upd_ne (ne q)]; exact q) fun c xs q => by rw [upd_ne (ne q)]; exact q
/-- a call of one of the text's defs by value, at any depth, that cannot raise -/
theorem def_call {A : Around} {j : Nat} {f : Addr} {fd : FuncData} {ps : List Str} {sp : Sp} {Q : VK} {us : List Value} {vs : List V} (F : FnOk X.prog X.w X.K X.mg X.base (L2N.CX X.prog X.w) j f fd ps sp) (hr : Room j A) (he : Env0 X.prog X.w X.K X.mg X.base A X.stack s H) (hb : Binds X.K fd ps [])
    (I : Inv X pins σ H s) (r : Vals vs us) (h : sp vs H Q (fun _ _ _ => False)) : wpAny (model X.prog X.w) A (call (.ref f) us) (EP X pins σ Q) (fun _ _ => False) s := by
  have hl : (us ++ []).length = ps.length := by rw [List.append_nil, ← r.length]; exact F.len _ _ _ _ h
  have hbt := hb s us I.kIn hl
  rw [List.append_nil] at hbt
  refine wpAny_call (codeAny_mono (F.run A X.stack s H ⟨us, []⟩ us vs Q _ hr he hbt r h) fun r s' hq => ?_)
  cases r with
  | error e => exact (let ⟨_, _, _, _, _, _, _, _, _, _, _, _, hE⟩ := hq; hE)
  | ok fl =>
    cases fl with
    | ret u => exact I.after hq
    | next => exact False.elim hq
    | brk => exact False.elim hq
    | cont => exact False.elim hq
end
section
variable {X : Cx} {pins : List (Addr × Obj)} {σ : St} {H H' : Hp} {s : Shared} {O : List Addr}
theorem each_reads (I : Inv X pins σ H s) : ∀ {xs : List V} {us : List Value} {ds : List D}, (∀ d ∈ ds, shp 16 d = true) → Vals xs us → RpAll X.fr O H xs ds → PySem.W.EachIs (fun v k => ∃ as, Reads s.heap v k as) us ds
  | _, _, _, _, .nil, .nil => .nil
  | _, _, _, z, .cons r rs, .cons h hs => .cons (Dp.reads I _ _ _ (Rp.dp 16 _ _ (z _ List.mem_cons_self) h) r) (each_reads I (fun d hd => z d (List.mem_cons_of_mem _ hd)) rs hs)
theorem each_of {α : Type} {f : α → D} : ∀ {xs : List V} {us : List Value} {bs : List α}, Vals xs us → RpAll X.fr O H xs (bs.map f) → PySem.W.EachIs (fun v (b : α) => ∃ x, RelV x v ∧ Rp X.fr O H x (f b)) us bs
  | _, _, [], .nil, .nil => .nil
  | _, _, b :: bs, .cons r rs, .cons h hs => .cons ⟨_, r, h⟩ (each_of rs hs)
theorem of_each {α : Type} {f : α → D} : ∀ {us : List Value} {bs : List α}, PySem.W.EachIs (fun v (b : α) => ∃ x, RelV x v ∧ Rp X.fr O H x (f b)) us bs → ∃ xs, Vals xs us ∧ RpAll X.fr O H xs (bs.map f)
  | _, _, .nil => ⟨[], .nil, .nil⟩
  | _, _, .cons ⟨x, r, h⟩ t => by
    obtain ⟨xs, rs, hs⟩ := of_each t
    exact ⟨x :: xs, .cons r rs, .cons h hs⟩
end
section
variable {X : Cx} {pins : List (Addr × Obj)} {σ : St} {H H' : Hp} {s : Shared} {O : List Addr}
/-- sorted(xs, key=f): f a def of the text, its keys alike -/
theorem sortKf_run {l f : Addr} {xs : List V} {ds kz : List D} {kd : Bool} {j : Nat} {fd : FuncData} {ps : List Str} {g : List D → R D} {Q : VK} (I : Inv X pins σ H s) (ht : ∀ a ∈ O, H a ≠ none) (hs : Rd H l (.lst xs)) (hx : RpAll X.fr O H xs ds)
    (F : FnOk X.prog X.w X.K X.mg X.base (L2N.CX X.prog X.w) j f fd ps (spM X.fr X.mg [kd] false g)) (hr : Room (j + 2) X.A) (hb : Binds X.K fd ps [])
    (hlen : kz.length = ds.length) (hg : ∀ (i : Nat) (d k : D), ds[i]? = some d → kz[i]? = some k → g [d] = .ok k) (hal : PySem.W.AllAlike kz) (hsk : (∀ d, d ∈ kz → ∃ xs, d = .tuple xs) ∨ ∀ d, d ∈ kz → ∃ xs, d = .list xs) (hdp : ∀ d ∈ kz, shp 16 d = true)
    (q : ∀ H' p xs', Same H H' → H' p = none → RpAll X.fr O H' xs' (((ds.zip kz).mergeSort (PySem.W.dataLe false fun b : D × D => b.2)).map (·.1)) → Q (.ref p) (upd H' p (.lst xs'))) :
    wpAny (model X.prog X.w) X.A (call (.builtin "sorted") [.ref l] [(Str.ofString "key", .ref f)]) (EP X pins σ Q) X.xe s := by
  obtain ⟨its, rv, hl, hz⟩ := I.list (.inl hs)
  have hil : its.length = ds.length := rv.length.symm.trans hx.length
  have hzi : its.length ≤ sizeLine := by rw [← rv.length]; exact hz
  refine PySem.W.sorted_of_sort hl.isList hzi (PyProof.Rows.ksk_s1 _ _) (fun _ => PyProof.Rows.ksk_l1 _ _) fun E' => ?_
  rw [PyProof.Rows.ksk_t1]
  generalize ha : s.heap.objs.size + 1 = a
  have hna : H a = none := I.hok.fresh (by omega)
  have ho := PySem.W.copyHeap_at s.heap its
  rw [ha] at ho
  obtain ⟨e1, ho1⟩ : ∃ e1, ((PySem.W.copyHeap s.heap its).update a (Obj.mapSeq fun _ => (#[] : Array Value))).get? a = some (PyProof.Rows.seqObj "list" #[] e1) := ⟨_, PyProof.Rows.get?_update_seq ho fun _ => #[]⟩
  unfold PyProof.Rows.ksk_tree
  refine wpAny_bind (PyProof.Rows.listItems_at ho rfl ?_)
  refine wpAny_bind (PyProof.Rows.listUpdate_at ho rfl ?_ (by rw [List.size_toArray]; exact hzi) (Nat.zero_le _))
  refine wpAny_bind (PyProof.Rows.seqEpoch_at ho1 rfl ?_)
  refine wpAny_bind (wpAny_newTuple ?_ (by show its.length ≤ _; exact hzi))
  refine wpAny_bind (wpAny_newList ?_ (Nat.zero_le _))
  refine wpAny_holding ?_
  generalize hkS : (((PySem.W.copyHeap s.heap its).update a (Obj.mapSeq fun _ => (#[] : Array Value))).push { cls := .type "tuple", data := .seq its.toArray }).objs.size = kS
  have hka' : a < kS := by
    rw [← hkS, PyProof.Rows.size_push', Heap.size_update]
    exact Nat.lt_succ_of_lt (Heap.lt_size ho)
  have hka : kS ≠ a := Nat.ne_of_gt hka'
  have hage : s.heap.objs.size ≤ a := by rw [← ha]; exact Nat.le_succ _
  have hkge : s.heap.objs.size ≤ kS := Nat.le_trans hage (Nat.le_of_lt hka')
  have I3 : Inv X pins σ H { s with heap := PySem.W.sortingHeap (PySem.W.copyHeap s.heap its) (s.heap.objs.size + 1) its } := I.kept (t' := s.toks) fun _ _ => PySem.W.sorting_copy_old
  rw [ha] at I3
  unfold PyProof.Rows.ksk_rest
  refine wpAny_bind (wpAny_rule ?_)
  rw [← Array.forIn_toList]
  simp only [List.toList_toArray]
  have nk3 : (PySem.W.sortingHeap (PySem.W.copyHeap s.heap its) a its).get? kS = some (PyProof.Rows.seqObj "list" #[] 0) := by rw [← hkS]; exact Heap.get?_push_size _ rfl
  have na3 : (PySem.W.sortingHeap (PySem.W.copyHeap s.heap its) a its).get? a = some (PyProof.Rows.seqObj "list" #[] e1) := Heap.get?_push_of_some _ (Heap.get?_push_of_some _ ho1)
  have fa : ∀ {H'' : Hp}, H'' a = none → FpOk X pins H'' a := fun h => I.fpOk hage h
  have fk : ∀ {H'' : Hp}, H'' kS = none → FpOk X pins H'' kS := fun h => I.fpOk hkge h
  refine wpAny_bind (PyProof.Rows.ksk_fold (fun i s' => ∃ H' kA e xk, Inv X pins σ H' s' ∧ Same H H' ∧ s'.heap.get? kS = some (PyProof.Rows.seqObj "list" kA e) ∧ s'.heap.get? a = some (PyProof.Rows.seqObj "list" #[] e1) ∧ H' kS = none ∧ H' a = none ∧ Vals xk kA.toList ∧ RpAll X.fr O H' xk (kz.take i)) its 0 _
    ⟨H, #[], 0, [], I3, Same.refl, nk3, na3, I.hok.fresh hkge, hna, .nil, by rw [List.take_zero]; exact .nil⟩ ?step ?done)
  case step =>
    rintro i u s1 hu ⟨H1, kA, e, xk, I1, sm, nk, na, hk0, ha0, rk, hk⟩
    simp only [Nat.zero_add] at hk ⊢
    have hi : i < its.length := (List.getElem?_eq_some_iff.mp hu).1
    obtain ⟨k, hkj⟩ : ∃ k, kz[i]? = some k := ⟨_, List.getElem?_eq_getElem (by omega)⟩
    obtain ⟨d, hdj⟩ : ∃ d, ds[i]? = some d := ⟨_, List.getElem?_eq_getElem (by omega)⟩
    obtain ⟨x, hxj, rx⟩ := (hx.same sm).get hdj
    have rxu : RelV x u := by
      obtain ⟨u', hu', r⟩ := rv.get hxj
      rw [hu] at hu'; cases hu'; exact r
    have Ip : Inv X ((kS, PyProof.Rows.seqObj "list" kA e) :: (a, PyProof.Rows.seqObj "list" #[] e1) :: pins) σ H1 s1 := I1.pins_of fun p hp => by
      rcases List.mem_cons.mp hp with rfl | hp
      · exact ⟨nk, hk0, (fk hk0).2.1, (fk hk0).2.2.1, fun v => by intro z; cases z⟩
      · rcases List.mem_cons.mp hp with rfl | hp
        · exact ⟨na, ha0, (fa ha0).2.1, (fa ha0).2.2.1, fun v => by intro z; cases z⟩
        · exact I1.pin p (List.mem_append_right _ hp)
    have hz2 : kA.size ≤ its.length := by
      have h1 := hk.length
      rw [rk.length, Array.length_toList, List.length_take] at h1
      omega
    refine wpAny_bind (wpAny_attempt (wpAny_mono (def_call F (hr.in1.in1) Ip.env0.in1.in1 hb Ip (vs := [x]) (.cons rxu .nil) (Q := fun v H2 => Same H1 H2 ∧ Rp X.fr O H2 v k) ⟨O, [d], fun b hb' => by
      have := ht b hb'
      cases q0 : H b with
      | none => exact absurd q0 this
      | some o => rw [sm b o q0]; simp, ⟨by cases kd <;> first | exact rx | exact .inl rx, trivial⟩, ?_⟩) (fun ku s2 he => ?_) fun _ _ hF => hF.elim))
    · rw [hg i d k hdj hkj]
      exact fun v H' s1 r1 => ⟨s1, r1⟩
    obtain ⟨kv, H2, I2, rv2, sm2, rp2⟩ := he
    obtain ⟨nk2, hk2, _⟩ := I2.pin _ (List.mem_append_right _ (.head _))
    obtain ⟨na2, ha2, _⟩ := I2.pin _ (List.mem_append_right _ (.tail _ (.head _)))
    have I2' : Inv X pins σ H2 s2 := I2.pins_of fun p hp => I2.pin p (List.mem_append_right _ (.tail _ (.tail _ hp)))
    try dsimp only
    have s1u := Heap.SameBut.update s2.heap kS (Obj.mapSeq (·.push ku))
    obtain ⟨c2, hc2⟩ : ∃ c2, (s2.heap.update kS (Obj.mapSeq (·.push ku))).get? kS = some (PyProof.Rows.seqObj "list" (kA.push ku) c2) := ⟨_, PyProof.Rows.get?_update_seq nk2 (·.push ku)⟩
    refine wpAny_bind (PyProof.Rows.listUpdate_at nk2 rfl ?_ (Nat.le_trans hz2 hzi) (Nat.le_trans (Nat.le_of_eq (Array.size_push ..)) (Nat.succ_le_succ (Nat.le_trans hz2 hzi))))
    have I3' : Inv X pins σ H2 { s2 with heap := s2.heap.update kS (Obj.mapSeq (·.push ku)), toks := s2.toks } := I2'.turnedL (ch := [kS]) (fun b o hb e => (s1u.2 b (fun z => hb (by simp [z]))).trans e) fun b hb => by
      have : b = kS := by simpa using hb
      subst this; exact fk hk2
    have ek : kz.take (i + 1) = kz.take i ++ [k] := by rw [List.take_add_one, hkj]; simp
    refine wpAny_pure ⟨rfl, H2, kA.push ku, c2, xk ++ [kv], I3', Same.tr sm sm2, hc2, (s1u.2 a hka.symm).trans na2, hk2, ha2, ?_, ?_⟩
    · rw [Array.toList_push]
      exact rk.append (.cons rv2 .nil)
    · rw [ek]
      exact (hk.same sm2).append (.one rp2)
  case done =>
    rintro s1 ⟨H1, kA, e, xk, I1, sm, nk, na, hk0, ha0, rk, hk⟩
    rw [show kz.take (0 + its.length) = kz from List.take_of_length_le (by omega)] at hk
    have hrd := each_reads I1 hdp rk hk
    have hsz : kA.size = its.length := by
      have h1 := hk.length
      rw [rk.length, Array.length_toList] at h1
      omega
    try dsimp only
    refine wpAny_bind (PyProof.Rows.listItems_at nk rfl ?_)
    obtain ⟨G, g1, g2⟩ := L2.restrict s1.heap (fun b => decide (b ≠ kS))
    have gk : G.get? kS = none := g2 kS (by simp)
    have gb : ∀ b, b ≠ kS → G.get? b = s1.heap.get? b := fun b hb => g1 b (by simp [hb])
    have hun : ∀ d, d ∈ kz → X.A.in1.in1.units + d.depth < cLine := fun d hd => by
      have := shp_depth 16 d (hdp d hd)
      have := hr.un
      show X.A.units + 1 + 1 + d.depth < _
      omega
    refine PySem.W.keyH_end (κ := PySem.W.dataKind s1.heap kz) (h₁ := G) (fun b o hb e => ?_) gk nk na hka (hsk.elim (fun hsk => MV.T.SortsAt_tups (s := s1) hrd hal hsk hun) fun hsk => PySem.W.SortsAt.data (s := s1) hrd hal (.inr fun d hd => by obtain ⟨xs, rfl⟩ := hsk d hd; exact ⟨by simp, by simp⟩) hun) hsz hzi fun h4 tk4 c k4 n4 => ?_
    · have hbk : b ≠ kS := fun z => by rw [z, gk] at e; cases e
      rw [gb b hbk] at e; exact e
    · have I4 : Inv X pins σ H1 { s1 with heap := h4, toks := tk4 } := I1.turnedL (ch := [a, kS]) (fun b o hb e => by
        simp only [List.mem_cons, List.not_mem_nil, or_false, not_or] at hb
        exact k4 b o hb.1 ((gb b hb.2).trans e)) fun b hb => by
        simp only [List.mem_cons, List.not_mem_nil, or_false] at hb
        rcases hb with rfl | rfl
        · exact fa ha0
        · exact fk hk0
      have e2 : (ds.zip kz).map (·.2) = kz := List.map_snd_zip (by omega)
      have e1' : (ds.zip kz).map (·.1) = ds := List.map_fst_zip (by omega)
      have hout := PySem.W.keyedOut_each (rev := false) (R := fun v (b : D × D) => ∃ x, RelV x v ∧ Rp X.fr O H1 x b.1) (bs := ds.zip kz) (vs := its) (out := PySem.W.sortVals (PySem.W.dataKind s1.heap kz) false kA.toList its) (fun b => b.2) ⟨s1.heap, kA.toList, by rw [e2]; exact hal, by rw [e2], by rw [e2]; exact hrd⟩ (each_of rv (by rw [e1']; exact hx.same sm))
      obtain ⟨xs', rs', hs'⟩ := of_each (f := fun b : D × D => b.1) hout
      have hlen' : xs'.length ≤ sizeLine := by
        rw [hs'.length, List.length_map, (List.mergeSort_perm _ _).length_eq, List.length_zip]
        omega
      exact ⟨rfl, .ref a, upd H1 a (.lst xs'), inv_track I4 (fa ha0) (Nat.le_trans I.sz hage) ⟨hlen', _, c, rs', n4⟩, rfl, q H1 a xs' sm ha0 hs'⟩
end

def keysO (g : List D → R D) : List D → Option (List D)
  | [] => some []
  | d :: ds => match g [d] with
    | .ok k => match keysO g ds with
      | some ks => some (k :: ks)
      | none => none
    | _ => none
def tupB : D → Bool
  | .tuple _ => true
  | _ => false
def keysOk (ks : List D) : Bool := (ks.all fun d => ks.all fun d' => PySem.W.alike d d') && ks.all tupB && ks.all (shp 16)
def lstB : D → Bool
  | .list _ => true
  | _ => false
def keysOkL (ks : List D) : Bool := (ks.all fun d => ks.all fun d' => PySem.W.alike d d') && ks.all lstB && ks.all (shp 16)
def sortKLD (g : List D → R D) : D → R D
  | .list ds => match keysO g ds with
    | some kz => okIf (keysOkL kz) (.list (((ds.zip kz).mergeSort (PySem.W.dataLe false fun b : D × D => b.2)).map (·.1)))
    | none => .stuck
  | _ => .stuck
def sortKD (g : List D → R D) : D → R D
  | .list ds => match keysO g ds with
    | some kz => okIf (keysOk kz) (.list (((ds.zip kz).mergeSort (PySem.W.dataLe false fun b : D × D => b.2)).map (·.1)))
    | none => .stuck
  | _ => .stuck
theorem keysO_len {g : List D → R D} : ∀ {ds kz : List D}, keysO g ds = some kz → kz.length = ds.length
  | [], kz, h => by cases h; rfl
  | d :: ds, kz, h => by
    simp only [keysO] at h
    split at h
    · split at h
      · rename_i ks hk
        cases h
        rw [List.length_cons, List.length_cons, keysO_len hk]
      · cases h
    · cases h
theorem keysO_get {g : List D → R D} : ∀ {ds kz : List D}, keysO g ds = some kz → ∀ (i : Nat) (d k : D), ds[i]? = some d → kz[i]? = some k → g [d] = .ok k
  | [], kz, h, i, d, k, h1, h2 => by simp at h1
  | d0 :: ds, kz, h, i, d, k, h1, h2 => by
    simp only [keysO] at h
    split at h
    · rename_i k0 hk0
      split at h
      · rename_i ks hk
        cases h
        cases i with
        | zero => simp at h1 h2; subst h1 h2; exact hk0
        | succ i => exact keysO_get hk i d k (by simpa using h1) (by simpa using h2)
      · cases h
    · cases h
section
variable {X : Cx} {W : WX} {B Ω : List Nat} {k : Nat} {e : Expr} {ge : Env → R D} {pos p : Pos} {nm : Str} {f : Addr} {fd : FuncData} {ps : List Str} {g : List D → R D} {j : Nat} {kd : Bool}
def rSortKf (X : Cx) (f : Addr) (g : List D → R D) : List V → List V → Hp → VK → Prop := fun vs zs H Q => ∃ (l : Addr) (xs : List V) (ds kz : List D) (O : List Addr), vs = [.ref l] ∧ zs = [.ref f] ∧ (∀ a ∈ O, H a ≠ none) ∧ Rd H l (.lst xs) ∧ RpAll X.fr O H xs ds ∧ keysO g ds = some kz ∧ keysOk kz = true ∧
  ∀ H' p xs', Same H H' → H' p = none → RpAll X.fr O H' xs' (((ds.zip kz).mergeSort (PySem.W.dataLe false fun b : D × D => b.2)).map (·.1)) → Q (.ref p) (upd H' p (.lst xs'))
theorem cr_sortKf (F : FnOk X.prog X.w X.K X.mg X.base (L2N.CX X.prog X.w) j f fd ps (spM X.fr X.mg [kd] false g)) (hr : Room (j + 2) X.A) (hb : Binds X.K fd ps []) : CallRK X (.builtin "sorted") [Str.ofString "key"] (rSortKf X f g) := by
  intro pins s σ H vs zs us ws Q I r rz h
  obtain ⟨l, xs, ds, kz, O, rfl, rfl, ht, hs, hx, hk, hok, q⟩ := h
  obtain rfl := Vals.ref1 r
  obtain rfl := Vals.ref1 rz
  simp only [keysOk, Bool.and_eq_true, List.all_eq_true, decide_eq_true_eq] at hok
  refine sortKf_run I ht hs hx F hr hb (keysO_len hk) (keysO_get hk) (fun d hd d' hd' => hok.1.1 d hd d' hd') (.inl fun d hd => ?_) hok.2 q
  have := hok.1.2 d hd
  unfold tupB at this
  split at this
  · exact ⟨_, rfl⟩
  · cases this
theorem po_sortKf {kpos p2 : Pos} (G : Gd X W k) (C : DefOk X.prog X.w X.K X.mg X.base nm f fd ps [kd] false g j) (hj : Nat.ble (j + 2) k = true) (hg : Gl X "sorted") (hm : X.mg "sorted" = none) (hgf : Gl X nm) (he : PB X W B Ω e ge)
    (hdb : (nm == ("__debug__" : Str)) = false := by decide) (hs : starEach [e] X.env = (false, eval e X.env) :: starEach [] X.env := by rfl)
    (he2 : backTo pos (starEach [e] X.env) = (false, eval e X.env) :: backTo pos (starEach [] X.env) := by rfl) (hpl : (backTo pos (starEach [e] X.env)).any (·.1) = false := by rfl)
    (hall : (backToKw pos (keywordEach [⟨some "key", .Name nm p2, kpos⟩] X.env)).all (·.1.isSome) = true := by rfl) (hnone : (backToKw pos (keywordEach [⟨some "key", .Name nm p2, kpos⟩] X.env)).any (·.1.isNone) = false := by rfl)
    (hks : (backToKw pos (keywordEach [⟨some "key", .Name nm p2, kpos⟩] X.env)).filterMap (·.1) = [Str.ofString "key"] := by rfl) :
    PO X W B Ω (.Call (.Name "sorted" p) [e] [⟨some "key", .Name nm p2, kpos⟩] pos) (x1 (sortKD g) ge) :=
  PE.imp (pe_callBK (cr_sortKf C.F (G.hr.mono (Nat.le_of_ble_eq_true hj)) C.b) hg hm (by decide +kernel) (pa_cons he pa_nil hs) (pk_cons (pe_glob hgf C.m (v := .ref f) rfl hdb) pk_nil) (by decide) (by decide) he2 hpl hall hnone hks) fun σ H Q ⟨H0, O0, O, ρ, S, h⟩ => ⟨H0, O0, O, ρ, S, Good.bind (f := sortKD g) h fun d v H1 e s1 r1 h1 => by
    cases d <;> first | exact h1.elim | skip
    rename_i ds
    simp only [sortKD] at h1
    split at h1
    · rename_i kz hkz
      obtain ⟨p, xs, rfl, h2, h3⟩ := r1.lst
      obtain ⟨z, ez⟩ := h1.ok_of fun n hn => by unfold okIf at hn; split at hn <;> cases hn
      rw [ez] at h1
      obtain ⟨c, rfl⟩ := okIf_ok ez
      exact ⟨p, xs, ds, kz, O, rfl, rfl, (S.same s1).trk, h2, h3, hkz, c, fun H' q xs' sm hq hx => h1 _ _ (Same.tr sm (same_upd hq)) (.inr ⟨q, rfl, free_back (Same.tr s1 sm) hq, new_own hq hx⟩)⟩
    · exact h1.elim⟩
def rSortKfL (X : Cx) (f : Addr) (g : List D → R D) : List V → List V → Hp → VK → Prop := fun vs zs H Q => ∃ (l : Addr) (xs : List V) (ds kz : List D) (O : List Addr), vs = [.ref l] ∧ zs = [.ref f] ∧ (∀ a ∈ O, H a ≠ none) ∧ Rd H l (.lst xs) ∧ RpAll X.fr O H xs ds ∧ keysO g ds = some kz ∧ keysOkL kz = true ∧
  ∀ H' p xs', Same H H' → H' p = none → RpAll X.fr O H' xs' (((ds.zip kz).mergeSort (PySem.W.dataLe false fun b : D × D => b.2)).map (·.1)) → Q (.ref p) (upd H' p (.lst xs'))
theorem cr_sortKfL (F : FnOk X.prog X.w X.K X.mg X.base (L2N.CX X.prog X.w) j f fd ps (spM X.fr X.mg [kd] false g)) (hr : Room (j + 2) X.A) (hb : Binds X.K fd ps []) : CallRK X (.builtin "sorted") [Str.ofString "key"] (rSortKfL X f g) := by
  intro pins s σ H vs zs us ws Q I r rz h
  obtain ⟨l, xs, ds, kz, O, rfl, rfl, ht, hs, hx, hk, hok, q⟩ := h
  obtain rfl := Vals.ref1 r
  obtain rfl := Vals.ref1 rz
  simp only [keysOkL, Bool.and_eq_true, List.all_eq_true, decide_eq_true_eq] at hok
  refine sortKf_run I ht hs hx F hr hb (keysO_len hk) (keysO_get hk) (fun d hd d' hd' => hok.1.1 d hd d' hd') (.inr fun d hd => ?_) hok.2 q
  have := hok.1.2 d hd
  unfold lstB at this
  split at this
  · exact ⟨_, rfl⟩
  · cases this
theorem po_sortKfL {kpos p2 : Pos} (G : Gd X W k) (C : DefOk X.prog X.w X.K X.mg X.base nm f fd ps [kd] false g j) (hj : Nat.ble (j + 2) k = true) (hg : Gl X "sorted") (hm : X.mg "sorted" = none) (hgf : Gl X nm) (he : PB X W B Ω e ge)
    (hdb : (nm == ("__debug__" : Str)) = false := by decide) (hs : starEach [e] X.env = (false, eval e X.env) :: starEach [] X.env := by rfl)
    (he2 : backTo pos (starEach [e] X.env) = (false, eval e X.env) :: backTo pos (starEach [] X.env) := by rfl) (hpl : (backTo pos (starEach [e] X.env)).any (·.1) = false := by rfl)
    (hall : (backToKw pos (keywordEach [⟨some "key", .Name nm p2, kpos⟩] X.env)).all (·.1.isSome) = true := by rfl) (hnone : (backToKw pos (keywordEach [⟨some "key", .Name nm p2, kpos⟩] X.env)).any (·.1.isNone) = false := by rfl)
    (hks : (backToKw pos (keywordEach [⟨some "key", .Name nm p2, kpos⟩] X.env)).filterMap (·.1) = [Str.ofString "key"] := by rfl) :
    PO X W B Ω (.Call (.Name "sorted" p) [e] [⟨some "key", .Name nm p2, kpos⟩] pos) (x1 (sortKLD g) ge) :=
  PE.imp (pe_callBK (cr_sortKfL C.F (G.hr.mono (Nat.le_of_ble_eq_true hj)) C.b) hg hm (by decide +kernel) (pa_cons he pa_nil hs) (pk_cons (pe_glob hgf C.m (v := .ref f) rfl hdb) pk_nil) (by decide) (by decide) he2 hpl hall hnone hks) fun σ H Q ⟨H0, O0, O, ρ, S, h⟩ => ⟨H0, O0, O, ρ, S, Good.bind (f := sortKLD g) h fun d v H1 e s1 r1 h1 => by
    cases d <;> first | exact h1.elim | skip
    rename_i ds
    simp only [sortKLD] at h1
    split at h1
    · rename_i kz hkz
      obtain ⟨p, xs, rfl, h2, h3⟩ := r1.lst
      obtain ⟨z, ez⟩ := h1.ok_of fun n hn => by unfold okIf at hn; split at hn <;> cases hn
      rw [ez] at h1
      obtain ⟨c, rfl⟩ := okIf_ok ez
      exact ⟨p, xs, ds, kz, O, rfl, rfl, (S.same s1).trk, h2, h3, hkz, c, fun H' q xs' sm hq hx => h1 _ _ (Same.tr sm (same_upd hq)) (.inr ⟨q, rfl, free_back (Same.tr s1 sm) hq, new_own hq hx⟩)⟩
    · exact h1.elim⟩
end
end MV

set_option Elab.async false
set_option linter.all false
set_option maxRecDepth 100000
set_option maxHeartbeats 4000000
namespace MV
open PySem L2 PySem.Spec PyProof.Rows

/-! ### dicts: the rules of their operations -/
def tDGet1E (F : Fr) (td ty : TE) : TE := fun σ H Q => td σ H fun x H1 => ∃ p es, x = .ref p ∧ H1 p = some (dR F p es) ∧ ty σ H1 fun y H2 => ∃ O es' kvs k, H2 p = some (dR F p es') ∧ RpKv F O H2 es' kvs ∧ dKind kvs k = true ∧ Rs F O H2 H2 y k ∧ Q ((lookE es' k).getD .non) H2
def tDGet2E (F : Fr) (td ty tx : TE) : TE := fun σ H Q => td σ H fun x H1 => ∃ p es, x = .ref p ∧ H1 p = some (dR F p es) ∧ ty σ H1 fun y H2 => tx σ H2 fun z H3 => ∃ O es' kvs k, H3 p = some (dR F p es') ∧ RpKv F O H3 es' kvs ∧ dKind kvs k = true ∧ Rs F O H3 H3 y k ∧ Q ((lookE es' k).getD z) H3
def tDSetdE (F : Fr) (td ty tx : TE) : TE := fun σ H Q => td σ H fun x H1 => ∃ p es, x = .ref p ∧ H1 p = some (dR F p es) ∧ ty σ H1 fun y H2 => tx σ H2 fun z H3 => ∃ O es' kvs k, H3 p = some (dR F p es') ∧ RpKv F O H3 es' kvs ∧ dKind kvs k = true ∧ Rs F O H3 H3 y k ∧ es'.length < sizeLine ∧
  (∀ v, lookE es' k = some v → Q v H3) ∧ (lookE es' k = none → Q z (upd H3 p (dR F p (putE es' k y z))))
def sDPutE (F : Fr) (td ty tv : TE) : TS := fun D σ H => tv σ H fun v H1 => td σ H1 fun x H2 => ty σ H2 fun y H3 => ∃ p O es kvs k, x = .ref p ∧ H3 p = some (dR F p es) ∧ RpKv F O H3 es kvs ∧ dKind kvs k = true ∧ Rs F O H3 H3 y k ∧ es.length < sizeLine ∧ D.nx σ (upd H3 p (dR F p (putE es k y v)))
section
variable {X : Cx} {o e f i value : Expr} {td ty tx tv : TE} {apos cpos pos pos' : Pos}
theorem pe_dget1E (hu : X.A.units + 64 < cLine) (ho : PE X o td) (he : PE X e ty) (m : M1 X o "get" apos e cpos) : PE X (.Call (.Attribute o "get" apos) [e] [] cpos) (tDGet1E X.fr td ty) := by
  refine ⟨fun pins s σ H Q I h => ?_⟩
  refine wpAny_Call_method m.base m.few m.line PySem.F.plainAttrs_dict PySem.F.slot_dict_get PySem.F.type_dict_get (thn (ho.run pins s σ H _ I h) fun u s1 ⟨x, H1, I1, rx, a, es, ex, d, q1⟩ => ?_)
  subst ex
  obtain rfl : u = Value.ref a := rx
  obtain ⟨t1, t2, _⟩ := e_type I1 d
  refine ⟨t1, t2, ?_⟩
  rw [m.trees]
  refine Calls.callWith_builtin rfl (Calls.evalArgs_plain (Calls.spliced_cons (thn (he.run pins s1 σ H1 _ I1 q1) fun iv s2 ⟨y, H2, I2, ry, O, es', kvs, k, hp, rk, hk, hy, q2⟩ => Calls.spliced_nil ?_)))
  exact e_get1 hu I2 hp rk hk hy ry fun w' s3 I3 rw' => ⟨_, H2, I3, rw', q2⟩
theorem pe_dget2E (hu : X.A.units + 64 < cLine) (ho : PE X o td) (he : PE X e ty) (hf : PE X f tx) (m : M2 X o "get" apos e f cpos) : PE X (.Call (.Attribute o "get" apos) [e, f] [] cpos) (tDGet2E X.fr td ty tx) := by
  refine ⟨fun pins s σ H Q I h => ?_⟩
  refine wpAny_Call_method m.base m.few m.line PySem.F.plainAttrs_dict PySem.F.slot_dict_get PySem.F.type_dict_get (thn (ho.run pins s σ H _ I h) fun u s1 ⟨x, H1, I1, rx, a, es, ex, d, q1⟩ => ?_)
  subst ex
  obtain rfl : u = Value.ref a := rx
  obtain ⟨t1, t2, _⟩ := e_type I1 d
  refine ⟨t1, t2, ?_⟩
  rw [m.trees]
  refine Calls.callWith_builtin rfl (Calls.evalArgs_plain (Calls.spliced_cons (thn (he.run pins s1 σ H1 _ I1 q1) fun iv s2 ⟨y, H2, I2, ry, q2⟩ =>
    Calls.spliced_cons (thn (hf.run pins s2 σ H2 _ I2 q2) fun fv s3 ⟨z, H3, I3, rz, O, es', kvs, k, hp, rk, hk, hy, q3⟩ => Calls.spliced_nil ?_))))
  exact e_get2 hu I3 hp rk hk hy ry rz fun w' s4 I4 rw' => ⟨_, H3, I4, rw', q3⟩
theorem pe_dsetdE (hu : X.A.units + 64 < cLine) (ho : PE X o td) (he : PE X e ty) (hf : PE X f tx) (m : M2 X o "setdefault" apos e f cpos) : PE X (.Call (.Attribute o "setdefault" apos) [e, f] [] cpos) (tDSetdE X.fr td ty tx) := by
  refine ⟨fun pins s σ H Q I h => ?_⟩
  refine wpAny_Call_method m.base m.few m.line PySem.F.plainAttrs_dict PySem.F.slot_dict_setdefault PySem.F.type_dict_setdefault (thn (ho.run pins s σ H _ I h) fun u s1 ⟨x, H1, I1, rx, a, es, ex, d, q1⟩ => ?_)
  subst ex
  obtain rfl : u = Value.ref a := rx
  obtain ⟨t1, t2, _⟩ := e_type I1 d
  refine ⟨t1, t2, ?_⟩
  rw [m.trees]
  refine Calls.callWith_builtin rfl (Calls.evalArgs_plain (Calls.spliced_cons (thn (he.run pins s1 σ H1 _ I1 q1) fun iv s2 ⟨y, H2, I2, ry, q2⟩ =>
    Calls.spliced_cons (thn (hf.run pins s2 σ H2 _ I2 q2) fun fv s3 ⟨z, H3, I3, rz, O, es', kvs, k, hp, rk, hk, hy, hl, q3, q4⟩ => Calls.spliced_nil ?_))))
  exact e_setd hu I3 hp rk hk hy ry rz hl (fun v hv w' s4 I4 rw' => ⟨v, _, I4, rw', q3 v hv⟩) fun hn w' s4 I4 rw' => ⟨z, _, I4, rw', q4 hn⟩
theorem ps_dputE (hu : X.A.units + 64 < cLine) (ho : PE X o td) (hi : PE X i ty) (hv : PE X value tv) (hs : swapsWith value (some (.Subscript o i pos')) pos.line X.env = pure false) :
    PS X (.Assign [.Subscript o i pos'] value pos) (sDPutE X.fr td ty tv) := by
  refine ⟨fun pins s σ H D I h => ?_⟩
  refine wpAny_Assign_Subscript (thn (hv.run pins s σ H _ I h) fun r s1 ⟨v, H1, I1, rv, q1⟩ => thn (ho.run pins s1 σ H1 _ I1 q1) fun u s2 ⟨x, H2, I2, rx, q2⟩ => thn (hi.run pins s2 σ H2 _ I2 q2) fun iv s3 ⟨y, H3, I3, ry, p, O, es, kvs, k, ex, hp, rk, hk, hy, hl, q3⟩ => ?_) hs
  subst ex
  obtain rfl : u = Value.ref p := rx
  exact e_setItem hu I3 hp rk hk hy ry rv hl fun s4 I4 => ⟨σ, _, I4, q3⟩
end

section
variable {X : Cx} {W : WX} {fr : Bool} {B Ωl Ω Ω' : List Nat} {k : Nat} {a b c e o ek ev : Expr} {ga gb gk gv g : Env → R D} {gt : Env → R Bool} {f f' : YF} {pos pos' p apos cpos : Pos}
theorem po_dict0 : PO X W B Ω (.Dict [] [] pos) (xC (.dict [])) := PE.imp pe_dnewE fun σ H Q ⟨H0, O0, O, ρ, S, h⟩ => fun p hp => h _ _ (same_upd hp) (.inr ⟨p, rfl, hp, [], upd_same, .nil⟩)
/-- d.get(k), d.get(k, x) -/
def get2K (kvs : List (D × D)) (k x : D) : R D := okIf (dKind kvs k) ((dGet kvs k).getD x)
def xGet1 (ga gk : Env → R D) : Env → R D := fun ρ => (ga ρ).bind fun x => match x with
  | .dict kvs => if isOb kvs = true then .stuck else (gk ρ).bind fun k => get2K kvs k .none
  | _ => .stuck
def xGet2 (ga gk gv : Env → R D) : Env → R D := fun ρ => (ga ρ).bind fun x => match x with
  | .dict kvs => if isOb kvs = true then .stuck else (gk ρ).bind fun k => (gv ρ).bind fun v => get2K kvs k v
  | _ => .stuck
theorem RpKv.rp_get {K : Fr} {O : List Addr} {H : Hp} {kvs : List (D × D)} {es : Ens} {k x : D} {v : V} (h : RpKv K O H es kvs) (hx : Rp K O H v x) : Rp K O H ((lookE es k).getD v) ((dGet kvs k).getD x) := by
  rcases get_rel (k := k) h with ⟨a, b⟩ | ⟨w, d, a, b, r⟩
  · rw [a, b]; exact hx
  · rw [a, b]; exact r
theorem px_dget1 (G : Gd X W k) (ho : PB X W B Ω o ga) (he : PB X W B Ω ek gk) (m : M1 X o "get" apos ek cpos) : PX X W B Ω (.Call (.Attribute o "get" apos) [ek] [] cpos) (xGet1 ga gk) :=
  PE.imp (pe_dget1E G.u64 ho he m) fun σ H Q ⟨H0, O0, O, ρ, S, h⟩ => ⟨H0, O0, O, ρ, S, Good.bind h fun x v H1 e0 s1 r1 h1 => by
    clear e0
    cases x <;> first | exact h1.elim | skip
    rename_i kvs
    by_cases no : isOb kvs = true
    · dsimp only at h1; rw [if_pos no] at h1; exact h1.elim
    dsimp only at h1
    rw [if_neg no] at h1
    obtain ⟨p, es, rfl, hp, rk⟩ := r1.dict (by simpa using no)
    refine ⟨p, es, rfl, hp, H0, O0, O, ρ, S.same s1, Good.bind (f := fun k => get2K kvs k .none) h1 fun k' u H2 _ s2 r2 h2 => ?_⟩
    obtain ⟨z, ez⟩ := h2.ok_of fun n hn => by simp [get2K] at hn
    rw [ez] at h2
    obtain ⟨hk, rfl⟩ := okIf_ok ez
    have rk2 := rk.same s2
    exact ⟨O, es, kvs, k', s2 _ _ hp, rk2, hk, r2, h2.use (rk2.rp_get .non)⟩⟩
theorem px_dget2 (G : Gd X W k) (ho : PB X W B Ω o ga) (he : PB X W B Ω ek gk) (hv : PX X W B Ω ev gv) (m : M2 X o "get" apos ek ev cpos) : PX X W B Ω (.Call (.Attribute o "get" apos) [ek, ev] [] cpos) (xGet2 ga gk gv) :=
  PE.imp (pe_dget2E G.u64 ho he hv m) fun σ H Q ⟨H0, O0, O, ρ, S, h⟩ => ⟨H0, O0, O, ρ, S, Good.bind h fun x v H1 e0 s1 r1 h1 => by
    clear e0
    cases x <;> first | exact h1.elim | skip
    rename_i kvs
    by_cases no : isOb kvs = true
    · dsimp only at h1; rw [if_pos no] at h1; exact h1.elim
    dsimp only at h1
    rw [if_neg no] at h1
    obtain ⟨p, es, rfl, hp, rk⟩ := r1.dict (by simpa using no)
    refine ⟨p, es, rfl, hp, H0, O0, O, ρ, S.same s1, Good.bind h1 fun k' u H2 _ s2 r2 h2 => ⟨H0, O0, O, ρ, (S.same s1).same s2, Good.bind (f := fun v => get2K kvs k' v) h2 fun x' w H3 _ s3 r3 h3 => ?_⟩⟩
    obtain ⟨z, ez⟩ := h3.ok_of fun n hn => by simp [get2K] at hn
    rw [ez] at h3
    obtain ⟨hk, rfl⟩ := okIf_ok ez
    have rk3 := (rk.same s2).same s3
    exact ⟨O, es, kvs, k', s3 _ _ (s2 _ _ hp), rk3, hk, r2.ge s3 (Ge.of_same s3), h3.use (rk3.rp_get r3)⟩⟩
/-- d[k] = v, d own -/
def yDPut (i : Nat) (gk gv : Env → R D) : YF := fun ρ => yB (gv ρ) ρ fun v => match ρ[i]? with
  | some (some (.dict kvs)) => yB (gk ρ) ρ fun k => if dKind kvs k = true ∧ kvs.length < sizeLine then .next (ρ.set i (some (.dict (dPut kvs k v)))) else .stuck
  | _ => .stuck
theorem ge_upd {O : List Addr} {H : Hp} {q : Addr} {o : HO} (h : q ∈ O) : Ge O H (upd H q o) := fun a u ha e => by rw [upd_ne (fun z => ha (by rw [z]; exact h))]; exact e
theorem py_dput {i : Nat} {x : Str} {ip : Pos} (G : Gd X W k) (hB : noB B Ω = true) (ho : Ω.contains i = true) (hb : B.contains i = false) (hN : X.N[i]? = some x) (hv : Vis X.env.scope x) (hk : PB X W B Ω ek gk) (he : PX X W B Ω ev gv)
    (hs : swapsWith ev (some (.Subscript (.Name x ip) ek pos')) pos.line X.env = pure false := by rfl) (hd : (x == ("__debug__" : Str)) = false := by decide) (hcd : (x == ("__classdict__" : Str)) = false := by decide) :
    PY X W fr B Ωl Ω Ω (.Assign [.Subscript (.Name x ip) ek pos'] ev pos) (yDPut i gk gv) :=
  PS.imp (ps_dputE G.u64 (pe_var hN hv hd hcd) hk he hs) fun Dn σ H ⟨H0, O0, O, ρ, S, h⟩ => ⟨H0, O0, O, ρ, S, goodB (ff := fun v => match ρ[i]? with
      | some (some (.dict kvs)) => yB (gk ρ) ρ fun k => if dKind kvs k = true ∧ kvs.length < sizeLine then .next (ρ.set i (some (.dict (dPut kvs k v)))) else .stuck
      | _ => .stuck) hB S h fun v vv H1 _ s1 r1 h1 => by
    have ho : i ∈ Ω := by simpa using ho
    have hb : i ∉ B := by simpa using hb
    split at h1
    · rename_i kvs er
      have S1 := S.same s1
      obtain ⟨q, e1, e2, e3, es, e4, e5⟩ := S1.owL i _ er ho rfl
      refine ⟨.ref q, e1, H0, O0, O, ρ, S1, goodB (ff := fun k => if dKind kvs k = true ∧ kvs.length < sizeLine then .next (ρ.set i (some (.dict (dPut kvs k v)))) else .stuck) hB S1 h1 fun k' u H2 _ s2 r2 h2 => ?_⟩
      split at h2
      · rename_i hc
        have e42 := s2 _ _ e4
        have e52 := e5.same s2
        refine ⟨q, O, es, kvs, k', rfl, e42, e52, hc.1, r2, by rw [rpkv_len e52]; exact hc.2, ?_⟩
        have ge : Ge O H2 (upd H2 q (dR X.fr q (putE es k' u vv))) := ge_upd e2
        obtain ⟨S3, st⟩ := (S1.same s2).put (o := dR X.fr q (putE es k' u vv)) (d := .dict (dPut kvs k' v)) ho hb er e1 ⟨_, upd_same, (put_rel (dk_kyb hc.1) (dk_rp hc.1 r2) (r1.same s2) e52).ge ge⟩
        exact h2 _ O _ st S3
      · exact h2.elim
    · exact h1.elim⟩
/-! ### expressions that change own things -/
inductive RZ (α : Type) where
  | ok (a : α) (ρ : Env)
  | exc (n : Str) (ρ : Env)
  | stuck
def RZ.bind {α β : Type} : RZ α → (α → Env → RZ β) → RZ β
  | .ok a ρ, f => f a ρ
  | .exc n ρ, _ => .exc n ρ
  | .stuck, _ => .stuck
def zP {α : Type} (r : R α) (ρ : Env) : RZ α := match r with
  | .ok a => .ok a ρ
  | .exc n => .exc n ρ
  | .stuck => .stuck
@[simp] theorem RZ.bind_ok {α β : Type} (a : α) (ρ : Env) (f : α → Env → RZ β) : (RZ.ok a ρ).bind f = f a ρ := rfl
@[simp] theorem RZ.bind_exc {α β : Type} (n : Str) (ρ : Env) (f : α → Env → RZ β) : (RZ.exc n ρ : RZ α).bind f = .exc n ρ := rfl
@[simp] theorem RZ.bind_stuck {α β : Type} (f : α → Env → RZ β) : (RZ.stuck : RZ α).bind f = .stuck := rfl
@[simp] theorem zP_ok {α : Type} (a : α) (ρ : Env) : zP (R.ok a) ρ = .ok a ρ := rfl
@[simp] theorem zP_exc {α : Type} (n : Str) (ρ : Env) : zP (R.exc n : R α) ρ = .exc n ρ := rfl
@[simp] theorem zP_stuck {α : Type} (ρ : Env) : zP (R.stuck : R α) ρ = .stuck := rfl
section
variable (K : Fr) (mg : Str → Option Value) (W : WX) (B Ω : List Nat)
def GoodZ {α β : Type} (H0 : Hp) (O0 : List Addr) (Rel : List Addr → Hp → β → α → Prop) (O : List Addr) (H : Hp) (σ : L2.St) (r : RZ α) (Q : β → Hp → Prop) : Prop := match r with
  | .ok d ρ' => ∀ v O' H', Step O H O' H' → Stt K H0 O0 B Ω O' H' σ ρ' → Rel O' H' v d → Q v H'
  | .exc n ρ' => ∀ C O' H', mg n = some (Value.ref C) → Step O H O' H' → Stt K H0 O0 B [] O' H' σ ρ' → W (.ref C) none σ H'
  | .stuck => False
def tZ (g : Env → RZ D) : TE := fun σ H Q => ∃ H0 O0 O ρ, Stt K H0 O0 B Ω O H σ ρ ∧ GoodZ K mg W B Ω H0 O0 (Rp K) O H σ (g ρ) Q
def tTZ (g : Env → RZ Bool) : TT := fun σ H Q => ∃ H0 O0 O ρ, Stt K H0 O0 B Ω O H σ ρ ∧ GoodZ K mg W B Ω H0 O0 (fun _ _ (b c : Bool) => b = c) O H σ (g ρ) Q
end
def PZ (X : Cx) (W : WX) (B Ω : List Nat) (e : Expr) (g : Env → RZ D) : Prop := PE X e (tZ X.fr X.mg W B Ω g)
def PTZ (X : Cx) (W : WX) (B Ω : List Nat) (e : Expr) (g : Env → RZ Bool) : Prop := PT X e (tTZ X.fr X.mg W B Ω g)
section
variable {K : Fr} {mg : Str → Option Value} {H0 : Hp} {O0 O O' : List Addr} {H H' : Hp} {σ : L2.St} {ρ : Env}
theorem GoodZ.step {α β : Type} {Rel : List Addr → Hp → β → α → Prop} {r : RZ α} {Q : β → Hp → Prop} (s : Step O H O' H') (h : GoodZ K mg W B Ω H0 O0 Rel O H σ r Q) : GoodZ K mg W B Ω H0 O0 Rel O' H' σ r Q := by
  cases r with
  | ok d ρ' => exact fun v O2 H2 s2 S r => h v O2 H2 (s.tr s2) S r
  | exc n ρ' => exact fun C O2 H2 m s2 S => h C O2 H2 m (s.tr s2) S
  | stuck => exact h
theorem goodZ {α β γ δ : Type} {Rel : Hp → β → α → Prop} {Rel2 : List Addr → Hp → δ → γ → Prop} {r : R α} {ff : α → Env → RZ γ} {Q : β → Hp → Prop} {Q2 : δ → Hp → Prop} (hB : noB B Ω = true) (S : Stt K H0 O0 B Ω O H σ ρ) (h : GoodZ K mg W B Ω H0 O0 Rel2 O H σ ((zP r ρ).bind ff) Q2)
    (k : ∀ d v H1, r = .ok d → Same H H1 → Rel H1 v d → GoodZ K mg W B Ω H0 O0 Rel2 O H1 σ (ff d ρ) Q2 → Q v H1) : Good mg W σ Rel H r Q := by
  cases r with
  | ok d => exact fun v H1 s rr => k d v H1 rfl s rr (GoodZ.step (Step.of_same s) h)
  | exc n =>
    intro C H1 m s
    obtain ⟨O', s', S'⟩ := (S.same s).giveAll (noB_of hB)
    exact h C O' H1 m ((Step.of_same s).tr s') S'
  | stuck => exact h
theorem goodZZ {α β γ δ : Type} {Rel : List Addr → Hp → β → α → Prop} {Rel2 : List Addr → Hp → δ → γ → Prop} {r : RZ α} {ff : α → Env → RZ γ} {Q : β → Hp → Prop} {Q2 : δ → Hp → Prop} (h : GoodZ K mg W B Ω H0 O0 Rel2 O H σ (r.bind ff) Q2)
    (k : ∀ d v ρ' O1 H1, r = .ok d ρ' → Step O H O1 H1 → Stt K H0 O0 B Ω O1 H1 σ ρ' → Rel O1 H1 v d → GoodZ K mg W B Ω H0 O0 Rel2 O1 H1 σ (ff d ρ') Q2 → Q v H1) : GoodZ K mg W B Ω H0 O0 Rel O H σ r Q := by
  cases r with
  | ok d ρ' => exact fun v O1 H1 s S rr => k d v ρ' O1 H1 rfl s S rr (GoodZ.step s h)
  | exc n ρ' => exact h
  | stuck => exact h
end
/-- d.setdefault(k, v), d own -/
def zSetd (i : Nat) (gk gv : Env → R D) : Env → RZ D := fun ρ => match ρ[i]? with
  | some (some (.dict kvs)) => (zP (gk ρ) ρ).bind fun k _ => (zP (gv ρ) ρ).bind fun v _ => if dKind kvs k = true ∧ kvs.length < sizeLine then (match dGet kvs k with
    | some d => .ok d ρ
    | none => .ok v (ρ.set i (some (.dict (dPut kvs k v))))) else .stuck
  | _ => .stuck
theorem pz_setd {i : Nat} {x : Str} {ip : Pos} (G : Gd X W k) (hB : noB B Ω = true) (ho : Ω.contains i = true) (hb : B.contains i = false) (hN : X.N[i]? = some x) (hv : Vis X.env.scope x) (hk : PB X W B Ω ek gk) (he : PX X W B Ω ev gv) (m : M2 X (.Name x ip) "setdefault" apos ek ev cpos)
    (hd : (x == ("__debug__" : Str)) = false := by decide) (hcd : (x == ("__classdict__" : Str)) = false := by decide) : PZ X W B Ω (.Call (.Attribute (.Name x ip) "setdefault" apos) [ek, ev] [] cpos) (zSetd i gk gv) :=
  PE.imp (pe_dsetdE G.u64 (pe_var hN hv hd hcd) hk he m) fun σ H Q ⟨H0, O0, O, ρ, S, h⟩ => by
    have ho : i ∈ Ω := by simpa using ho
    have hb : i ∉ B := by simpa using hb
    unfold zSetd at h
    split at h
    · rename_i kvs er
      obtain ⟨q, e1, e2, e3, es, e4, e5⟩ := S.owL i _ er ho rfl
      refine ⟨.ref q, e1, q, es, rfl, e4, H0, O0, O, ρ, S, goodZ (ff := fun k _ => (zP (gv ρ) ρ).bind fun v _ => if dKind kvs k = true ∧ kvs.length < sizeLine then (match dGet kvs k with | some d => .ok d ρ | none => .ok v (ρ.set i (some (.dict (dPut kvs k v))))) else .stuck) hB S h fun k' u H1 _ s1 r1 h1 => ?_⟩
      have S1 := S.same s1
      refine ⟨H0, O0, O, ρ, S1, goodZ (ff := fun v _ => if dKind kvs k' = true ∧ kvs.length < sizeLine then (match dGet kvs k' with | some d => .ok d ρ | none => .ok v (ρ.set i (some (.dict (dPut kvs k' v))))) else .stuck) hB S1 h1 fun v' w H2 _ s2 r2 h2 => ?_⟩
      have S2 := S1.same s2
      split at h2
      · rename_i hc
        have e42 := s2 _ _ (s1 _ _ e4)
        have e52 := (e5.same s1).same s2
        have r1' := r1.ge s2 (Ge.of_same s2)
        refine ⟨O, es, kvs, k', e42, e52, hc.1, r1', by rw [rpkv_len e52]; exact hc.2, fun y hy => ?_, fun hn => ?_⟩
        · rcases get_rel (k := k') e52 with ⟨a, b⟩ | ⟨w', d, a, b, r⟩
          · rw [a] at hy; cases hy
          · rw [a] at hy; cases hy
            rw [b] at h2
            exact h2 _ O H2 Step.refl S2 r
        · rcases get_rel (k := k') e52 with ⟨a, b⟩ | ⟨w', d, a, b, r⟩
          · rw [b] at h2
            have ge : Ge O H2 (upd H2 q (dR X.fr q (putE es k' u w))) := ge_upd e2
            obtain ⟨S3, st⟩ := S2.put (o := dR X.fr q (putE es k' u w)) (d := .dict (dPut kvs k' v')) ho hb er e1 ⟨_, upd_same, (put_rel (dk_kyb hc.1) (dk_rp hc.1 r1') r2 e52).ge ge⟩
            exact h2 _ O _ st S3 (r2.ge ge)
          · rw [a] at hn; cases hn
      · exact h2.elim
    · exact h.elim
/-- name = E -/
def yzSet (i : Nat) (g : Env → RZ D) : YF := fun ρ => match g ρ with
  | .ok d ρ' => .next (ρ'.set i (some d))
  | .exc n ρ' => .exc n ρ'
  | .stuck => .stuck
theorem pyz_set {i : Nat} {x : Str} {pos' : Pos} {g : Env → RZ D} (G : Gd X W k) (hb : B.contains i = false) (hi : X.N[i]? = some x) (hx : Loc X.env.scope x) (he : PZ X W B Ω e g) (hs : swapsWith e (some (.Name x pos')) pos.line X.env = pure false := by rfl)
    (hf : X.fn x = true ∨ X.env.scope.names.lookup x = some .local := by first | exact .inl rfl | exact .inr rfl | assumption) (eΩ : Ω.filter (· ≠ i) = Ω' := by rfl) : PY X W fr B Ωl Ω Ω' (.Assign [.Name x pos'] e pos) (yzSet i g) :=
  eΩ ▸ PS.imp (ps_set G.nd hi hx he hs hf) fun Dn σ H ⟨H0, O0, O, ρ, S, h⟩ => ⟨H0, O0, O, ρ, S, by
    unfold yzSet at h
    cases q : g ρ with
    | ok d ρ' => rw [q] at h; exact fun v O1 H1 st S1 r => h _ O1 H1 st (S1.set r (by simpa using hb))
    | exc n ρ' => rw [q] at h; exact fun C O1 H1 m st S1 => h C σ O1 H1 m st S1
    | stuck => rw [q] at h; exact h⟩
/-- E -/
def yzEx (g : Env → RZ D) : YF := fun ρ => match g ρ with
  | .ok d ρ' => .next ρ'
  | .exc n ρ' => .exc n ρ'
  | .stuck => .stuck
theorem pyz_ex {g : Env → RZ D} (he : PZ X W B Ω e g) (hs : swapsWith e none pos.line X.env = pure false := by rfl) : PY X W fr B Ωl Ω Ω (.Expr e pos) (yzEx g) :=
  PS.imp (ps_expr he hs) fun Dn σ H ⟨H0, O0, O, ρ, S, h⟩ => ⟨H0, O0, O, ρ, S, by
    unfold yzEx at h
    cases q : g ρ with
    | ok d ρ' => rw [q] at h; exact fun v O1 H1 st S1 r => h _ O1 H1 st S1
    | exc n ρ' => rw [q] at h; exact fun C O1 H1 m st S1 => h C σ O1 H1 m st S1
    | stuck => rw [q] at h; exact h⟩
/-- E op b as a test -/
def zCmp (f : D → D → R D) (g : Env → RZ D) (gb : Env → R D) : Env → RZ Bool := fun ρ => (g ρ).bind fun x ρ' => (zP (gb ρ') ρ').bind fun y _ => zP ((f x y).bind asB) ρ'
theorem ptz_cmp {cop : CmpOp} {r : R2} {f : D → D → R D} {g : Env → RZ D} (hB : noB B Ω = true) (ho : OpR X (compareOp cop) r) (hm : behindInMarks cop b = false) (hn : NoX f) (hr : RB X r f) (ha : PZ X W B Ω a g) (hb : PB X W B Ω b gb) : PTZ X W B Ω (.Compare a [cop] [b] pos) (zCmp f g gb) :=
  PT.imp (pt_cmpR ho ha hb hm) fun σ H Q ⟨H0, O0, O, ρ, S, h⟩ => ⟨H0, O0, O, ρ, S, goodZZ (ff := fun x ρ' => (zP (gb ρ') ρ').bind fun y _ => zP ((f x y).bind asB) ρ') h fun x v ρ' O1 H1 _ st S1 r1 h1 =>
    ⟨H0, O0, O1, ρ', S1, goodZ (ff := fun y _ => zP ((f x y).bind asB) ρ') hB S1 h1 fun y u H2 _ s2 r2 h2 => by
      have S2 := S1.same s2
      cases ez : f x y with
      | stuck => rw [ez] at h2; exact h2.elim
      | exc n => exact absurd ez (hn x y n)
      | ok z =>
        rw [ez] at h2
        refine hr O1 H2 v u x y z _ S2.trk (.inl (r1.same s2)) r2 ez fun w H3 s3 rz => ?_
        cases z <;> first | exact h2.elim | skip
        cases rz
        exact ⟨_, rfl, h2 _ O1 H3 (Step.of_same s3) (S2.same s3) rfl⟩⟩⟩
def yzIf (g : Env → RZ Bool) (f f' : YF) : YF := fun ρ => match g ρ with
  | .ok c ρ' => if c = true then f ρ' else f' ρ'
  | .exc n ρ' => .exc n ρ'
  | .stuck => .stuck
theorem pyz_if {p q : List Stmt} {g : Env → RZ Bool} (hc : PTZ X W B Ω c g) (ha : PYs X W fr B Ωl Ω Ω' p f) (hb : PYs X W fr B Ωl Ω Ω' q f') : PY X W fr B Ωl Ω Ω' (.If c p q pos) (yzIf g f f') :=
  PS.imp (ps_if hc ha hb) fun Dn σ H ⟨H0, O0, O, ρ, S, h⟩ => ⟨H0, O0, O, ρ, S, by
    unfold yzIf at h
    cases q : g ρ with
    | ok c ρ' =>
      rw [q] at h
      intro v O1 H1 st S1 r
      have r : v = c := r
      subst r
      cases v with
      | true => exact ⟨H0, O0, O1, ρ', S1, GoodS.step st h⟩
      | false => exact ⟨H0, O0, O1, ρ', S1, GoodS.step st h⟩
    | exc n ρ' => rw [q] at h; exact fun C O1 H1 m st S1 => h C σ O1 H1 m st S1
    | stuck => rw [q] at h; exact h⟩
end
end MV

set_option Elab.async false
set_option linter.all false
set_option maxRecDepth 100000
set_option maxHeartbeats 4000000
namespace MV
open PySem L2 PySem.Spec PyProof.Rows

section
variable {K : Fr} {O : List Addr} {H : Hp}
theorem RpAll.reverse : ∀ {ds : List D} {vs : List V}, RpAll K O H vs ds → RpAll K O H vs.reverse ds.reverse
  | [], _, h => by cases h; exact .nil
  | d :: ds, _, h => by
    cases h with
    | cons h1 h2 => rw [List.reverse_cons, List.reverse_cons]; exact (RpAll.reverse h2).append (.one h1)
theorem RpAll.dropLast {ds : List D} {vs : List V} (h : RpAll K O H vs ds) : RpAll K O H vs.dropLast ds.dropLast := by
  rw [List.dropLast_eq_take, List.dropLast_eq_take, h.length]
  exact h.take _
end
section
variable {X : Cx} {W : WX} {fr : Bool} {B Ωl Ω Ω' : List Nat} {k : Nat} {a b c e o ek ev : Expr} {ga gb gk gv g : Env → R D} {gt : Env → R Bool} {f f' : YF} {pos pos' p apos cpos : Pos} {i : Nat} {x : Str} {ip : Pos}
/-- an own list is changed in its place -/
theorem own_lst {K : Fr} {H0 : Hp} {O0 O : List Addr} {H : Hp} {σ : L2.St} {ρ : Env} {ds es : List D} {ys : List V} {q : Addr} (S : Stt K H0 O0 B Ω O H σ ρ) (ho : i ∈ Ω) (hb : i ∉ B) (er : ρ[i]? = some (some (.list ds))) (e1 : σ[i]? = some (some (.ref q))) (e2 : q ∈ O) (r : RpAll K O H ys es) :
    Stt K H0 O0 B Ω O (upd H q (.lst ys)) σ (ρ.set i (some (.list es))) ∧ Step O H O (upd H q (.lst ys)) :=
  S.put (o := .lst ys) (d := .list es) ho hb er e1 ⟨_, upd_same, r.ge (ge_upd e2)⟩
def yMut0 (i : Nat) (f : List D → List D) : YF := fun ρ => match ρ[i]? with
  | some (some (.list ds)) => .next (ρ.set i (some (.list (f ds))))
  | _ => .stuck
theorem py_reverse (ho : Ω.contains i = true) (hb : B.contains i = false) (hp : PE X e (tBM0 X.K "list" rReverse (tVar i))) (hs : swapsWith e none pos.line X.env = pure false := by rfl) : PY X W fr B Ωl Ω Ω (.Expr e pos) (yMut0 i List.reverse) :=
  PS.imp (ps_expr hp hs) fun Dn σ H ⟨H0, O0, O, ρ, S, h⟩ => by
    have ho : i ∈ Ω := by simpa using ho
    have hb : i ∉ B := by simpa using hb
    unfold yMut0 at h
    split at h
    · rename_i ds er
      obtain ⟨q, e1, e2, e3, xs, e4, e5⟩ := S.owL i _ er ho rfl
      obtain ⟨S2, st⟩ := own_lst S ho hb er e1 e2 e5.reverse
      exact ⟨.ref q, e1, tyL (K := X.fr) e4, q, xs, rfl, rfl, e4, h _ O _ st S2⟩
    · exact h.elim
theorem py_clear (ho : Ω.contains i = true) (hb : B.contains i = false) (hp : PE X e (tBM0 X.K "list" rClear (tVar i))) (hs : swapsWith e none pos.line X.env = pure false := by rfl) : PY X W fr B Ωl Ω Ω (.Expr e pos) (yMut0 i fun _ => []) :=
  PS.imp (ps_expr hp hs) fun Dn σ H ⟨H0, O0, O, ρ, S, h⟩ => by
    have ho : i ∈ Ω := by simpa using ho
    have hb : i ∉ B := by simpa using hb
    unfold yMut0 at h
    split at h
    · rename_i ds er
      obtain ⟨q, e1, e2, e3, xs, e4, e5⟩ := S.owL i _ er ho rfl
      obtain ⟨S2, st⟩ := own_lst S ho hb er e1 e2 (RpAll.nil)
      exact ⟨.ref q, e1, tyL (K := X.fr) e4, q, xs, rfl, rfl, e4, h _ O _ st S2⟩
    · exact h.elim
/-- xs.pop() -/
def zPop (i : Nat) : Env → RZ D := fun ρ => match ρ[i]? with
  | some (some (.list ds)) => match ds[ds.length - 1]? with
    | some d => .ok d (ρ.set i (some (.list ds.dropLast)))
    | none => .stuck
  | _ => .stuck
theorem pz_pop (ho : Ω.contains i = true) (hb : B.contains i = false) (hp : PE X e (tBM0 X.K "list" rPop (tVar i))) : PZ X W B Ω e (zPop i) :=
  PE.imp hp fun σ H Q ⟨H0, O0, O, ρ, S, h⟩ => by
    have ho : i ∈ Ω := by simpa using ho
    have hb : i ∉ B := by simpa using hb
    unfold zPop at h
    split at h
    · rename_i ds er
      split at h
      · rename_i d ed
        obtain ⟨q, e1, e2, e3, xs, e4, e5⟩ := S.owL i _ er ho rfl
        obtain ⟨v, ev, rv⟩ := e5.get ed
        obtain ⟨S2, st⟩ := own_lst S ho hb er e1 e2 e5.dropLast
        exact ⟨.ref q, e1, tyL (K := X.fr) e4, q, xs, v, rfl, rfl, e4, by rw [e5.length]; exact ev, h _ O _ st S2 (rv.ge (ge_upd e2))⟩
      · exact h.elim
    · exact h.elim
/-- xs.extend(ys) -/
def rExtR : V → List V → Hp → VK → Prop := fun x vs H Q => ∃ l b xs zs, x = .ref l ∧ vs = [.ref b] ∧ H l = some (.lst xs) ∧ Rd H b (.lst zs) ∧ xs.length + zs.length ≤ sizeLine ∧ Q .non (upd H l (.lst (xs ++ zs)))
theorem mt_extR : MtR X "list.extend" rExtR := by
  intro pins s σ H x vs v us Q I rx rv h
  obtain ⟨l, b, xs, zs, rfl, rfl, hH, hB, hz, q⟩ := h
  cases rx
  obtain ⟨u, rfl, ru⟩ := rv.one
  cases ru
  obtain ⟨z, its, n, r, hl, e⟩ := I.lstM hH
  obtain ⟨z2, its2, n2, r2, e2⟩ := hB.ok I.hok
  have hl2 := r2.length
  have hsz : its.toArray.size + its2.toArray.size ≤ sizeLine := by rw [List.size_toArray, List.size_toArray]; omega
  have hlong : ¬ (!its.toArray.isEmpty && Builtin.List.listTooLong (its.toArray.size + its2.toArray.size)) = true := by
    rw [notLongL hsz, Bool.and_false]
    exact Bool.false_ne_true
  refine call_meets F.slot_list_extend ⟨_, e, rfl⟩ F.entry_list_extend (F.args_list_extend_2 _ _)
    (AutoSeq1.list_extend_list_list_0 l its.toArray n b its2.toArray n2 hlong (by rw [List.size_toArray]; omega) (by omega)) ⟨e, e2, ?_⟩
  refine ⟨.non, _, I.lset (its' := its ++ its2) hH e (by simp) (r.append r2) ?_, rfl, q⟩
  rw [List.length_append]
  omega
def yExt (i : Nat) (g : Env → R D) : YF := fun ρ => match ρ[i]? with
  | some (some (.list ds)) => yB (g ρ) ρ fun d => match d with
    | .list es => if ds.length + es.length ≤ sizeLine then .next (ρ.set i (some (.list (ds ++ es)))) else .stuck
    | _ => .stuck
  | _ => .stuck
theorem py_ext (hB : noB B Ω = true) (ho : Ω.contains i = true) (hb : B.contains i = false) (hp : PE X e (tBM X.K "list" rExtR (tVar i) (tCons (tB X.fr X.mg W B Ω g) tNil)))
    (hs : swapsWith e none pos.line X.env = pure false := by rfl) : PY X W fr B Ωl Ω Ω (.Expr e pos) (yExt i g) :=
  PS.imp (ps_expr hp hs) fun Dn σ H ⟨H0, O0, O, ρ, S, h⟩ => by
    have ho : i ∈ Ω := by simpa using ho
    have hb : i ∉ B := by simpa using hb
    unfold yExt at h
    split at h
    · rename_i ds er
      obtain ⟨q, e1, e2, e3, xs, e4, e5⟩ := S.owL i _ er ho rfl
      refine ⟨.ref q, e1, tyL (K := X.fr) e4, H0, O0, O, ρ, S, goodB (Rel := fun H' => Rs X.fr O H' H') (ff := fun d => match d with | .list es => if ds.length + es.length ≤ sizeLine then .next (ρ.set i (some (.list (ds ++ es)))) else .stuck | _ => .stuck) hB S h fun d v H1 e0 s1 r1 h1 => ?_⟩
      clear e0
      cases d <;> first | exact h1.elim | skip
      rename_i es
      obtain ⟨p2, zs, rfl, z1, z2⟩ := r1.lst
      have S1 := S.same s1
      have e41 := s1 _ _ e4
      have e51 := e5.same s1
      have h1 : GoodS X.fr X.mg W fr H0 O0 B Ωl Ω O H1 (if ds.length + es.length ≤ sizeLine then .next (ρ.set i (some (.list (ds ++ es)))) else .stuck) Dn := h1
      split at h1
      · rename_i hz
        obtain ⟨S2, st⟩ := own_lst S1 ho hb er e1 e2 (e51.append z2)
        exact ⟨q, p2, xs, zs, rfl, rfl, e41, z1, by rw [e51.length, z2.length]; exact hz, h1 _ O _ st S2⟩
      · exact h1.elim
    · exact h.elim
/-- xs.insert(n, y) -/
def insL (ds : List D) (n : Int) (d : D) : List D := ds.take n.toNat ++ [d] ++ ds.drop n.toNat
def yIns (i : Nat) (gk gv : Env → R D) : YF := fun ρ => match ρ[i]? with
  | some (some (.list ds)) => yB (gk ρ) ρ fun n => match n with
    | .int n => yB (gv ρ) ρ fun d => if ds.length < sizeLine ∧ 0 ≤ n ∧ n < 2 ^ 63 then .next (ρ.set i (some (.list (insL ds n d)))) else .stuck
    | _ => .stuck
  | _ => .stuck
abbrev rIns : V → List V → Hp → VK → Prop := fun x vs H Q => ∃ (l : Addr) (xs : List V) (i : Int) (y : V), x = .ref l ∧ vs = [.int i, y] ∧ H l = some (.lst xs) ∧ xs.length < sizeLine ∧ 0 ≤ i ∧ i < 2 ^ 63 ∧ Q .non (upd H l (.lst (xs.take i.toNat ++ [y] ++ xs.drop i.toNat)))
theorem py_ins (hB : noB B Ω = true) (ho : Ω.contains i = true) (hb : B.contains i = false) (hp : PE X e (tBM X.K "list" rIns (tVar i) (tCons (tX X.fr X.mg W B Ω gk) (tCons (tX X.fr X.mg W B Ω gv) tNil))))
    (hs : swapsWith e none pos.line X.env = pure false := by rfl) : PY X W fr B Ωl Ω Ω (.Expr e pos) (yIns i gk gv) :=
  PS.imp (ps_expr hp hs) fun Dn σ H ⟨H0, O0, O, ρ, S, h⟩ => by
    have ho : i ∈ Ω := by simpa using ho
    have hb : i ∉ B := by simpa using hb
    unfold yIns at h
    split at h
    · rename_i ds er
      obtain ⟨q, e1, e2, e3, xs, e4, e5⟩ := S.owL i _ er ho rfl
      refine ⟨.ref q, e1, tyL (K := X.fr) e4, H0, O0, O, ρ, S, goodB (Rel := Rp X.fr O) (ff := fun n => match n with | .int n => yB (gv ρ) ρ fun d => if ds.length < sizeLine ∧ 0 ≤ n ∧ n < 2 ^ 63 then .next (ρ.set i (some (.list (insL ds n d)))) else .stuck | _ => .stuck) hB S h fun n u H1 e0 s1 r1 h1 => ?_⟩
      clear e0
      cases n <;> first | exact h1.elim | skip
      rename_i n
      cases r1
      have S1 := S.same s1
      refine ⟨H0, O0, O, ρ, S1, goodB (Rel := Rp X.fr O) (ff := fun d => if ds.length < sizeLine ∧ 0 ≤ n ∧ n < 2 ^ 63 then .next (ρ.set i (some (.list (insL ds n d)))) else .stuck) hB S1 h1 fun d w H2 _ s2 r2 h2 => ?_⟩
      have S2 := S1.same s2
      have e42 := s2 _ _ (s1 _ _ e4)
      have e52 := (e5.same s1).same s2
      split at h2
      · rename_i hc
        obtain ⟨S3, st⟩ := own_lst S2 ho hb er e1 e2 (ys := xs.take n.toNat ++ [w] ++ xs.drop n.toNat) (es := insL ds n d) (((e52.take _).append (.one r2)).append (e52.drop _))
        exact ⟨q, xs, n, w, rfl, rfl, e42, by rw [e52.length]; exact hc.1, hc.2.1, hc.2.2, h2 _ O _ st S3⟩
      · exact h2.elim
    · exact h.elim
end
end MV

set_option Elab.async false
set_option linter.all false
set_option maxRecDepth 100000
set_option maxHeartbeats 4000000
namespace MV
open PySem L2 PySem.Spec PyProof.Rows

theorem nq {a b : Nat} (h : a ≠ b) : (a : Addr) ≠ b := h
/-! ### zip of lists, tuples, texts in any mix -/
inductive SK where
  | lst (a : Addr)
  | tup (a : Addr)
  | str (z : Str)
def SK.v : SK → V
  | .lst a => .ref a
  | .tup a => .ref a
  | .str z => .str z
def SK.has (H : Hp) : SK → List V → Prop
  | .lst a, xs => Rd H a (.lst xs)
  | .tup a, xs => H a = some (.tup xs)
  | .str z, xs => xs = z.cps.toList.map fun c => .str ⟨#[c]⟩
def SK.st (h : Heap) (it : Addr) (i : Nat) : SK → Prop
  | .lst a => h.IsListIter it a i
  | .tup a => h.IsTupleIter it a i
  | .str z => ∃ t, h.IsStrIter it (strIterType z) z t i
theorem SK.obj {h : Heap} {it : Addr} {i : Nat} : ∀ {K : SK}, K.st h it i → ∃ o, h.get? it = some o ∧ ∀ v, o.data ≠ .cell v
  | .lst a, ⟨o, e, _, d⟩ => ⟨o, e, fun v z => by rw [d] at z; cases z⟩
  | .tup a, ⟨o, e, _, d⟩ => ⟨o, e, fun v z => by rw [d] at z; cases z⟩
  | .str z, ⟨t, o, e, _, d⟩ => ⟨o, e, fun v z => by rw [d] at z; cases z⟩
theorem SK.keep {h h' : Heap} {it : Addr} {i : Nat} (k : ∀ o, h.get? it = some o → h'.get? it = some o) : ∀ {K : SK}, K.st h it i → K.st h' it i
  | .lst a, ⟨o, e, r⟩ => ⟨o, k o e, r⟩
  | .tup a, ⟨o, e, r⟩ => ⟨o, k o e, r⟩
  | .str z, ⟨t, o, e, r⟩ => ⟨t, o, k o e, r⟩
section
variable {X : Cx} {pins : List (Addr × Obj)} {σ : L2.St} {H : Hp} {s : Shared}
theorem SK.draws (I : Inv X pins σ H s) {it : Addr} {i : Nat} (hit : H it = none) : ∀ {K : SK} {xs : List V}, K.has H xs → K.st s.heap it i →
    ∃ (fp : List Addr) (P : Nat → Value → Prop) (St : Nat → Heap → Prop), (∀ A, A.handled = none → Draws X.prog X.w A it fp xs.length P St) ∧ St i s.heap ∧ it ∈ fp ∧ (∀ b ∈ fp, b = it ∨ H b ≠ none) ∧ (∀ j x, P j x → ∃ y, xs[j]? = some y ∧ RelV y x) ∧ ∀ j h', St j h' → K.st h' it j
  | .lst a, xs, has, st => by
    obtain ⟨_, its, n, rv, e⟩ := has.ok I.hok
    have hne : H a ≠ none := by rcases has with q | ⟨_, q⟩ <;> rw [q] <;> simp
    have hl : its.toArray.size = xs.length := by have := rv.length; simp; omega
    have p : s.heap.IsList a its.toArray := ⟨_, e, rfl, _, rfl⟩
    refine ⟨[it, a], _, _, fun A hA => hl ▸ Draws.list hA it a (fun z => hne (z ▸ hit)) its.toArray, ⟨st, p⟩, by simp, fun b hb => ?_, fun j x hj => ?_, fun j h' q => q.1⟩
    · rcases List.mem_cons.mp hb with z | z
      · exact .inl z
      · rw [List.mem_singleton.mp z]; exact .inr hne
    · obtain ⟨hlt, _⟩ := List.getElem?_eq_some_iff.mp (show its[j]? = some x by simpa using hj)
      have : xs[j]? = some (xs[j]'(by simp at hl; omega)) := List.getElem?_eq_getElem _
      obtain ⟨u, hu, ru⟩ := rv.get this
      have hj' : its[j]? = some x := by simpa using hj
      rw [hj'] at hu; cases hu
      exact ⟨_, this, ru⟩
  | .tup a, xs, has, st => by
    obtain ⟨_, its, rv, o, e1, e2, n, e3⟩ := I.hok a _ has
    have hne : H a ≠ none := by rw [has]; simp
    have hl : its.toArray.size = xs.length := by have := rv.length; simp; omega
    have p : s.heap.IsTuple a its.toArray := ⟨o, e1, e2, n, e3⟩
    refine ⟨[it, a], _, _, fun A hA => hl ▸ Draws.tuple hA it a (fun z => hne (z ▸ hit)) its.toArray, ⟨st, p⟩, by simp, fun b hb => ?_, fun j x hj => ?_, fun j h' q => q.1⟩
    · rcases List.mem_cons.mp hb with z | z
      · exact .inl z
      · rw [List.mem_singleton.mp z]; exact .inr hne
    · obtain ⟨hlt, _⟩ := List.getElem?_eq_some_iff.mp (show its[j]? = some x by simpa using hj)
      have : xs[j]? = some (xs[j]'(by simp at hl; omega)) := List.getElem?_eq_getElem _
      obtain ⟨u, hu, ru⟩ := rv.get this
      have hj' : its[j]? = some x := by simpa using hj
      rw [hj'] at hu; cases hu
      exact ⟨_, this, ru⟩
  | .str z, xs, has, st => by
    have has : xs = z.cps.toList.map fun c => .str ⟨#[c]⟩ := has
    subst has
    obtain ⟨t, st⟩ := st
    refine ⟨[it], fun i v => ∃ c u, z.cps[i]? = some c ∧ v = .str ⟨#[c]⟩ u, fun i h => h.IsStrIter it (strIterType z) z t i, fun A hA => ?_, st, by simp, fun b hb => .inl (by simpa using hb), fun j x hj => ?_, fun j h' q => ⟨t, q⟩⟩
    · have := Draws.text (prog := X.prog) (w := X.w) hA it z t
      simpa using this
    · obtain ⟨c, u, hc, rfl⟩ := hj
      refine ⟨.str ⟨#[c]⟩, ?_, ⟨u, rfl⟩⟩
      rw [List.getElem?_map, Array.getElem?_toList, hc]; rfl
/-- how the iterator of such a thing begins -/
theorem SK.begins (I : Inv X pins σ H s) {u : Value} : ∀ {K : SK} {xs : List V}, K.has H xs → RelV K.v u → ∃ o B, Begins u o B ∧ B s.heap ∧ ∀ h it, h.get? it = some o → K.st h it 0
  | .lst a, xs, has, r => by
    cases r
    obtain ⟨_, its, n, rv, e⟩ := has.ok I.hok
    exact ⟨_, _, begins_list a its.toArray, ⟨_, e, rfl, _, rfl⟩, fun h it e => ⟨_, e, rfl, rfl⟩⟩
  | .tup a, xs, has, r => by
    cases r
    obtain ⟨_, its, rv, o, e1, e2, n, e3⟩ := I.hok a _ has
    exact ⟨_, _, begins_tuple a its.toArray, ⟨o, e1, e2, n, e3⟩, fun h it e => ⟨_, e, rfl, rfl⟩⟩
  | .str z, xs, has, r => by
    obtain ⟨t, rfl⟩ := r
    exact ⟨_, _, begins_text z t, True.intro, fun h it e => ⟨t, _, e, rfl, rfl⟩⟩
end
def Itz2 (K1 K2 : SK) (xs ys : List V) : It :=
  ⟨fun i H => K1.has H xs ∧ K2.has H ys ∧ i < xs.length ∧ i < ys.length,
    fun i H v H' => ∃ T x y, v = .ref T ∧ H T = none ∧ H' = upd H T (.tup [x, y]) ∧ xs[i]? = some x ∧ ys[i]? = some y,
    fun i H => K1.has H xs ∧ K2.has H ys ∧ i = min xs.length ys.length⟩
theorem turn_z2 {P : Program} {w : World} {K : PySem.W.Frag} {elts : List Expr} {kk : Nat} {tpos : Pos} (K1 K2 : SK) (xs ys : List V) (n : Nat) :
    Turn P w K (.Tuple elts kk tpos) (Itz2 K1 K2 xs ys) [n + 4, n + 2, n + 3, n, n + 1] (n + 4) (fun i h => IsZip h (n + 4) (n + 2) (n + 3) .none ∧ IsTupOf2 h (n + 2) (.ref n) (.ref (n + 1)) ∧ (∃ x y, IsTupOf2 h (n + 3) x y) ∧ K1.st h n i ∧ K2.st h (n + 1) i) where
  mem := by simp
  obj := fun i h st c hc => by
    obtain ⟨hz, hTI, ⟨x, y, hTO⟩, h1, h2⟩ := st
    have e' : c = n + 4 ∨ c = n + 2 ∨ c = n + 3 ∨ c = n ∨ c = n + 1 := by simpa using hc
    rcases e' with q | q | q | q | q
    · rw [q]; exact ⟨_, hz, fun v q => nomatch q⟩
    · rw [q]; exact ⟨_, hTI, fun v q => nomatch q⟩
    · rw [q]; exact ⟨_, hTO, fun v q => nomatch q⟩
    · rw [q]; exact SK.obj h1
    · rw [q]; exact SK.obj h2
  keep := fun i h h' st k => by
    obtain ⟨hz, hTI, ⟨x, y, hTO⟩, h1, h2⟩ := st
    exact ⟨k _ (by simp) _ hz, k _ (by simp) _ hTI, ⟨x, y, k _ (by simp) _ hTO⟩, SK.keep (fun o q => k n (by simp) o q) h1, SK.keep (fun o q => k (n + 1) (by simp) o q) h2⟩
  item := by
    intro X hP hw hK hc i pins s σ H E I hf st hg
    subst hP hw hK
    obtain ⟨hz, hTI, ⟨x0, y0, hTO⟩, h1, h2⟩ := st
    obtain ⟨a1, a2, l1, l2⟩ := hg
    have hn : ∀ b ∈ [n + 4, n + 2, n + 3, n, n + 1], H b = none := fun b hb => (hf b hb).1
    obtain ⟨fp1, P1, St1, D1, s1, m1, f1, v1, k1⟩ := SK.draws I (hn n (by simp)) a1 h1
    obtain ⟨fp2, P2, St2, D2, s2, m2, f2, v2, k2⟩ := SK.draws I (hn (n + 1) (by simp)) a2 h2
    have hh := I.ok.hd hc
    have far1 : ∀ b ∈ [n + 4, n + 2, n + 3, n, n + 1], b ≠ n → b ∉ fp1 := fun b hb hne z => by
      rcases f1 b z with q | q
      · exact hne q
      · exact q (hn b hb)
    have far2 : ∀ b ∈ [n + 4, n + 2, n + 3, n, n + 1], b ≠ n + 1 → b ∉ fp2 := fun b hb hne z => by
      rcases f2 b z with q | q
      · exact hne q
      · exact q (hn b hb)
    have S : ZipSep2 (n + 4) (n + 2) (n + 3) n (n + 1) fp1 fp2 :=
      ⟨nq (by omega), nq (by omega), nq (by omega), nq (by omega), m1, far1 _ (by simp) (nq (by omega)), far1 _ (by simp) (nq (by omega)), nq (by omega), m2, far2 _ (by simp) (nq (by omega)), far2 _ (by simp) (nq (by omega)), far2 _ (by simp) (nq (by omega)), far1 _ (by simp) (nq (by omega))⟩
    have hzl : n + 4 < s.heap.objs.size := Heap.lt_size hz
    refine wpAny_pyNext_zipD2_item S (D1 _ hh) (D2 _ hh) hz hTI hTO s1 s2 l1 l2 fun x1 x2 h' tk y1 y2 z' TO' h1' h2' hT hsz hk => ?_
    obtain ⟨x, hx, ru⟩ := v1 i x1 y1
    obtain ⟨y, hy, ru2⟩ := v2 i x2 y2
    refine ⟨_, rfl, wpAny_letOwnedTupleGo_zip (s := { s with heap := h', toks := tk }) z' fun h'' z'' sb => ?_⟩
    have hT2 : h''.get? s.heap.objs.size = some { cls := .type "tuple", data := .seq #[x1, x2] } := (sb.2 _ (Nat.ne_of_gt hzl)).trans hT
    have new : ObjOk X.prog X.w (upd H s.heap.objs.size (.tup [x, y])) h'' s.heap.objs.size (.tup [x, y]) :=
      ⟨by show 2 ≤ sizeLine; decide, [x1, x2], .cons ru (.cons ru2 .nil), ⟨_, hT2, rfl, _, rfl⟩⟩
    have I1 : Inv X pins σ (upd H s.heap.objs.size (.tup [x, y])) { s with heap := h'', toks := tk } :=
      I.turnedNew (t' := tk) (ch := [n + 4, n + 2, n + 3, n, n + 1]) (fun c o hb q => (sb.2 c (fun q' => hb (by simp [q']))).trans (hk c o (fun q' => hb (by simp [q'])) (fun q' => hb (by simp [q'])) (fun q' => hb (by simp [q'])) (fun q' => hb (by simp [q'])) q)) hf (Nat.le_refl _) new
    refine ⟨.ref s.heap.objs.size, _, I1, rfl, ⟨_, x, y, rfl, I.hok.fresh (Nat.le_refl _), rfl, hx, hy⟩, ⟨z'', ?_, ⟨x1, x2, ?_⟩, ?_, ?_⟩, fun c hcm => ?_⟩
    · exact (sb.2 _ (nq (by omega))).trans (hk _ _ (nq (by omega)) (nq (by omega)) (nq (by omega)) (nq (by omega)) hTI)
    · exact (sb.2 _ (nq (by omega))).trans TO'
    · exact SK.keep (fun o q => (sb.2 _ (nq (by omega))).trans q) (k1 _ _ h1')
    · exact SK.keep (fun o q => (sb.2 _ (nq (by omega))).trans q) (k2 _ _ h2')
    · have hlt : c < s.heap.objs.size := by
        have e' : c = n + 4 ∨ c = n + 2 ∨ c = n + 3 ∨ c = n ∨ c = n + 1 := by simpa using hcm
        refine Nat.lt_of_le_of_lt ?_ hzl
        rcases e' with q | q | q | q | q <;> rw [q] <;> (show (_ : Nat) ≤ _; omega)
      rw [upd_ne (Nat.ne_of_lt hlt)]
      exact hn c hcm
  done := by
    intro X hP hw hK hc i pins s σ H E I hf st hg
    subst hP hw hK
    obtain ⟨hz, hTI, ⟨x0, y0, hTO⟩, h1, h2⟩ := st
    obtain ⟨a1, a2, hend⟩ := hg
    have hn : ∀ b ∈ [n + 4, n + 2, n + 3, n, n + 1], H b = none := fun b hb => (hf b hb).1
    obtain ⟨fp1, P1, St1, D1, s1, m1, f1, v1, k1⟩ := SK.draws I (hn n (by simp)) a1 h1
    obtain ⟨fp2, P2, St2, D2, s2, m2, f2, v2, k2⟩ := SK.draws I (hn (n + 1) (by simp)) a2 h2
    have hh := I.ok.hd hc
    have far1 : ∀ b ∈ [n + 4, n + 2, n + 3, n, n + 1], b ≠ n → b ∉ fp1 := fun b hb hne z => by
      rcases f1 b z with q | q
      · exact hne q
      · exact q (hn b hb)
    have far2 : ∀ b ∈ [n + 4, n + 2, n + 3, n, n + 1], b ≠ n + 1 → b ∉ fp2 := fun b hb hne z => by
      rcases f2 b z with q | q
      · exact hne q
      · exact q (hn b hb)
    have S : ZipSep2 (n + 4) (n + 2) (n + 3) n (n + 1) fp1 fp2 :=
      ⟨nq (by omega), nq (by omega), nq (by omega), nq (by omega), m1, far1 _ (by simp) (nq (by omega)), far1 _ (by simp) (nq (by omega)), nq (by omega), m2, far2 _ (by simp) (nq (by omega)), far2 _ (by simp) (nq (by omega)), far2 _ (by simp) (nq (by omega)), far1 _ (by simp) (nq (by omega))⟩
    exact wpAny_pyNext_zipD2_end S (D1 _ hh) (D2 _ hh) hz hTI hTO s1 s2 (by omega) (by omega) (by omega) fun h' tk hk => ⟨rfl, I.turnedL (t' := tk) (ch := [n + 4, n + 2, n + 3, n, n + 1]) (fun c o hb q =>
      hk c o (fun q' => hb (by simp [q'])) (fun q' => hb (by simp [q'])) (fun q' => hb (by simp [q'])) (fun q' => hb (by simp [q'])) q) hf⟩
  self := fun A i s Q E st h => wpAny_pyIter_zip st.1 h
def iZ2 (ta : TA) : TI := fun σ H R => ta σ H fun vs H1 => ∃ K1 K2 xs ys, vs = [K1.v, K2.v] ∧ K1.has H1 xs ∧ K2.has H1 ys ∧ R (Itz2 K1 K2 xs ys) H1
theorem pi_z2 {X : Cx} {e e2 : Expr} {ta : TA} {p pos tpos : Pos} {elts : List Expr} {kk : Nat} (hg : Gl X "zip") (hm : X.mg "zip" = none) (ha : PA X [e, e2] ta)
    (hs : starEach [e, e2] X.env = (false, eval e X.env) :: starEach [e2] X.env := by rfl) (hpl : (backTo pos (starEach [e2] X.env)).any (·.1) = false := by rfl) :
    PI X (.Tuple elts kk tpos) (.Call (.Name "zip" p) [e, e2] [] pos) (iZ2 ta) := by
  refine ⟨fun pins s σ H R I h => ?_⟩
  refine Call_ (ld_blt I hg hm PyProof.Rows.boot_zip (PyProof.Rows.callWith_type1 (thn (ha.run pos pins s σ H _ I h) fun us s1 ⟨vs, H1, I1, r1, q1⟩ => ?_) hs hpl))
  obtain ⟨K1, K2, xs, ys, ex, a1, a2, q⟩ := q1
  subst ex
  cases r1 with
  | cons r rr =>
    cases rr with
    | cons r' rr =>
      cases rr
      obtain ⟨o1, B1, b1, c1, d1⟩ := SK.begins I1 a1 r
      obtain ⟨o2, B2, b2, c2, d2⟩ := SK.begins I1 a2 r'
      refine zip_begins2 b1 b2 c1 c2 fun h' hz hTI hTO h1 h2 hsz hk => wpAny_pyIter_zip hz ?_
      have I2 : Inv X pins σ H1 { s1 with heap := h' } := I1.kept (t' := s1.toks) hk
      refine ⟨s1.heap.objs.size + 4, [s1.heap.objs.size + 4, s1.heap.objs.size + 2, s1.heap.objs.size + 3, s1.heap.objs.size, s1.heap.objs.size + 1], _, _, H1, rfl, I2, turn_z2 K1 K2 xs ys s1.heap.objs.size, ⟨hz, hTI, ⟨_, _, hTO⟩, d1 _ _ h1, d2 _ _ h2⟩, fun c hcm => ?_, q⟩
      have e' : c = s1.heap.objs.size + 4 ∨ c = s1.heap.objs.size + 2 ∨ c = s1.heap.objs.size + 3 ∨ c = s1.heap.objs.size ∨ c = s1.heap.objs.size + 1 := by simpa using hcm
      have hle : s1.heap.objs.size ≤ c := by rcases e' with q | q | q | q | q <;> rw [q] <;> (show (_ : Nat) ≤ _; omega)
      exact I1.fpOk hle (I1.hok.fresh hle)
def Itz3 (K1 K2 K3 : SK) (xs ys zs : List V) : It :=
  ⟨fun i H => K1.has H xs ∧ K2.has H ys ∧ K3.has H zs ∧ i < xs.length ∧ i < ys.length ∧ i < zs.length,
    fun i H v H' => ∃ T x y z, v = .ref T ∧ H T = none ∧ H' = upd H T (.tup [x, y, z]) ∧ xs[i]? = some x ∧ ys[i]? = some y ∧ zs[i]? = some z,
    fun i H => K1.has H xs ∧ K2.has H ys ∧ K3.has H zs ∧ i = min (min xs.length ys.length) zs.length⟩
theorem sep3 {H : Hp} {n : Nat} {fp1 fp2 fp3 : List Addr} (hn : ∀ b ∈ [n + 5, n + 3, n + 4, n, n + 1, n + 2], H b = none) (m1 : (n : Addr) ∈ fp1) (m2 : (n + 1 : Addr) ∈ fp2) (m3 : (n + 2 : Addr) ∈ fp3)
    (f1 : ∀ b ∈ fp1, b = n ∨ H b ≠ none) (f2 : ∀ b ∈ fp2, b = n + 1 ∨ H b ≠ none) (f3 : ∀ b ∈ fp3, b = n + 2 ∨ H b ≠ none) : ZipSep3 (n + 5) (n + 3) (n + 4) n (n + 1) (n + 2) fp1 fp2 fp3 := by
  have far1 : ∀ b ∈ [n + 5, n + 3, n + 4, n, n + 1, n + 2], b ≠ n → b ∉ fp1 := fun b hb hne z => by
    rcases f1 b z with q | q
    · exact hne q
    · exact q (hn b hb)
  have far2 : ∀ b ∈ [n + 5, n + 3, n + 4, n, n + 1, n + 2], b ≠ n + 1 → b ∉ fp2 := fun b hb hne z => by
    rcases f2 b z with q | q
    · exact hne q
    · exact q (hn b hb)
  have far3 : ∀ b ∈ [n + 5, n + 3, n + 4, n, n + 1, n + 2], b ≠ n + 2 → b ∉ fp3 := fun b hb hne z => by
    rcases f3 b z with q | q
    · exact hne q
    · exact q (hn b hb)
  constructor <;> first | assumption | exact nq (by omega) | exact far1 _ (by simp) (nq (by omega)) | exact far2 _ (by simp) (nq (by omega)) | exact far3 _ (by simp) (nq (by omega))
theorem turn_z3 {P : Program} {w : World} {K : PySem.W.Frag} {elts : List Expr} {kk : Nat} {tpos : Pos} (K1 K2 K3 : SK) (xs ys zs : List V) (n : Nat) :
    Turn P w K (.Tuple elts kk tpos) (Itz3 K1 K2 K3 xs ys zs) [n + 5, n + 3, n + 4, n, n + 1, n + 2] (n + 5) (fun i h => IsZip h (n + 5) (n + 3) (n + 4) .none ∧ IsTupOf3 h (n + 3) (.ref n) (.ref (n + 1)) (.ref (n + 2)) ∧ (∃ x y z, IsTupOf3 h (n + 4) x y z) ∧ K1.st h n i ∧ K2.st h (n + 1) i ∧ K3.st h (n + 2) i) where
  mem := by simp
  obj := fun i h st c hc => by
    obtain ⟨hz, hTI, ⟨x, y, z, hTO⟩, h1, h2, h3⟩ := st
    have e' : c = n + 5 ∨ c = n + 3 ∨ c = n + 4 ∨ c = n ∨ c = n + 1 ∨ c = n + 2 := by simpa using hc
    rcases e' with q | q | q | q | q | q
    · rw [q]; exact ⟨_, hz, fun v q => nomatch q⟩
    · rw [q]; exact ⟨_, hTI, fun v q => nomatch q⟩
    · rw [q]; exact ⟨_, hTO, fun v q => nomatch q⟩
    · rw [q]; exact SK.obj h1
    · rw [q]; exact SK.obj h2
    · rw [q]; exact SK.obj h3
  keep := fun i h h' st k => by
    obtain ⟨hz, hTI, ⟨x, y, z, hTO⟩, h1, h2, h3⟩ := st
    exact ⟨k _ (by simp) _ hz, k _ (by simp) _ hTI, ⟨x, y, z, k _ (by simp) _ hTO⟩, SK.keep (fun o q => k n (by simp) o q) h1, SK.keep (fun o q => k (n + 1) (by simp) o q) h2, SK.keep (fun o q => k (n + 2) (by simp) o q) h3⟩
  item := by
    intro X hP hw hK hc i pins s σ H E I hf st hg
    subst hP hw hK
    obtain ⟨hz, hTI, ⟨x0, y0, z0, hTO⟩, h1, h2, h3⟩ := st
    obtain ⟨a1, a2, a3, l1, l2, l3⟩ := hg
    have hn : ∀ b ∈ [n + 5, n + 3, n + 4, n, n + 1, n + 2], H b = none := fun b hb => (hf b hb).1
    obtain ⟨fp1, P1, St1, D1, s1, m1, f1, v1, k1⟩ := SK.draws I (hn n (by simp)) a1 h1
    obtain ⟨fp2, P2, St2, D2, s2, m2, f2, v2, k2⟩ := SK.draws I (hn (n + 1) (by simp)) a2 h2
    obtain ⟨fp3, P3, St3, D3, s3, m3, f3, v3, k3⟩ := SK.draws I (hn (n + 2) (by simp)) a3 h3
    have hh := I.ok.hd hc
    have S := sep3 hn m1 m2 m3 f1 f2 f3
    have hzl : n + 5 < s.heap.objs.size := Heap.lt_size hz
    refine wpAny_pyNext_zipD3_item S (D1 _ hh) (D2 _ hh) (D3 _ hh) hz hTI hTO s1 s2 s3 l1 l2 l3 fun x1 x2 x3 h' tk y1 y2 y3 z' TO' h1' h2' h3' hT hsz hk => ?_
    obtain ⟨x, hx, ru⟩ := v1 i x1 y1
    obtain ⟨y, hy, ru2⟩ := v2 i x2 y2
    obtain ⟨z, hz3, ru3⟩ := v3 i x3 y3
    refine ⟨_, rfl, wpAny_letOwnedTupleGo_zip (s := { s with heap := h', toks := tk }) z' fun h'' z'' sb => ?_⟩
    have hT2 : h''.get? s.heap.objs.size = some { cls := .type "tuple", data := .seq #[x1, x2, x3] } := (sb.2 _ (Nat.ne_of_gt hzl)).trans hT
    have new : ObjOk X.prog X.w (upd H s.heap.objs.size (.tup [x, y, z])) h'' s.heap.objs.size (.tup [x, y, z]) :=
      ⟨by show 3 ≤ sizeLine; decide, [x1, x2, x3], .cons ru (.cons ru2 (.cons ru3 .nil)), ⟨_, hT2, rfl, _, rfl⟩⟩
    have I1 : Inv X pins σ (upd H s.heap.objs.size (.tup [x, y, z])) { s with heap := h'', toks := tk } :=
      I.turnedNew (t' := tk) (ch := [n + 5, n + 3, n + 4, n, n + 1, n + 2]) (fun c o hb q => (sb.2 c (fun q' => hb (by simp [q']))).trans (hk c o (fun q' => hb (by simp [q'])) (fun q' => hb (by simp [q'])) (fun q' => hb (by simp [q'])) (fun q' => hb (by simp [q'])) (fun q' => hb (by simp [q'])) q)) hf (Nat.le_refl _) new
    refine ⟨.ref s.heap.objs.size, _, I1, rfl, ⟨_, x, y, z, rfl, I.hok.fresh (Nat.le_refl _), rfl, hx, hy, hz3⟩, ⟨z'', ?_, ⟨x1, x2, x3, ?_⟩, ?_, ?_, ?_⟩, fun c hcm => ?_⟩
    · exact (sb.2 _ (nq (by omega))).trans (hk _ _ (nq (by omega)) (nq (by omega)) (nq (by omega)) (nq (by omega)) (nq (by omega)) hTI)
    · exact (sb.2 _ (nq (by omega))).trans TO'
    · exact SK.keep (fun o q => (sb.2 _ (nq (by omega))).trans q) (k1 _ _ h1')
    · exact SK.keep (fun o q => (sb.2 _ (nq (by omega))).trans q) (k2 _ _ h2')
    · exact SK.keep (fun o q => (sb.2 _ (nq (by omega))).trans q) (k3 _ _ h3')
    · have hlt : c < s.heap.objs.size := by
        have e' : c = n + 5 ∨ c = n + 3 ∨ c = n + 4 ∨ c = n ∨ c = n + 1 ∨ c = n + 2 := by simpa using hcm
        refine Nat.lt_of_le_of_lt ?_ hzl
        rcases e' with q | q | q | q | q | q <;> rw [q] <;> (show (_ : Nat) ≤ _; omega)
      rw [upd_ne (Nat.ne_of_lt hlt)]
      exact hn c hcm
  done := by
    intro X hP hw hK hc i pins s σ H E I hf st hg
    subst hP hw hK
    obtain ⟨hz, hTI, ⟨x0, y0, z0, hTO⟩, h1, h2, h3⟩ := st
    obtain ⟨a1, a2, a3, hend⟩ := hg
    have hn : ∀ b ∈ [n + 5, n + 3, n + 4, n, n + 1, n + 2], H b = none := fun b hb => (hf b hb).1
    obtain ⟨fp1, P1, St1, D1, s1, m1, f1, v1, k1⟩ := SK.draws I (hn n (by simp)) a1 h1
    obtain ⟨fp2, P2, St2, D2, s2, m2, f2, v2, k2⟩ := SK.draws I (hn (n + 1) (by simp)) a2 h2
    obtain ⟨fp3, P3, St3, D3, s3, m3, f3, v3, k3⟩ := SK.draws I (hn (n + 2) (by simp)) a3 h3
    have hh := I.ok.hd hc
    have S := sep3 hn m1 m2 m3 f1 f2 f3
    exact wpAny_pyNext_zipD3_end S (D1 _ hh) (D2 _ hh) (D3 _ hh) hz hTI hTO s1 s2 s3 (by omega) (by omega) (by omega) (by omega) fun h' tk hk => ⟨rfl, I.turnedL (t' := tk) (ch := [n + 5, n + 3, n + 4, n, n + 1, n + 2]) (fun c o hb q =>
      hk c o (fun q' => hb (by simp [q'])) (fun q' => hb (by simp [q'])) (fun q' => hb (by simp [q'])) (fun q' => hb (by simp [q'])) (fun q' => hb (by simp [q'])) q) hf⟩
  self := fun A i s Q E st h => wpAny_pyIter_zip st.1 h
def iZ3 (ta : TA) : TI := fun σ H R => ta σ H fun vs H1 => ∃ K1 K2 K3 xs ys zs, vs = [K1.v, K2.v, K3.v] ∧ K1.has H1 xs ∧ K2.has H1 ys ∧ K3.has H1 zs ∧ R (Itz3 K1 K2 K3 xs ys zs) H1
theorem pi_z3 {X : Cx} {e e2 e3 : Expr} {ta : TA} {p pos tpos : Pos} {elts : List Expr} {kk : Nat} (hg : Gl X "zip") (hm : X.mg "zip" = none) (ha : PA X [e, e2, e3] ta)
    (hs : starEach [e, e2, e3] X.env = (false, eval e X.env) :: starEach [e2, e3] X.env := by rfl) (hpl : (backTo pos (starEach [e2, e3] X.env)).any (·.1) = false := by rfl) :
    PI X (.Tuple elts kk tpos) (.Call (.Name "zip" p) [e, e2, e3] [] pos) (iZ3 ta) := by
  refine ⟨fun pins s σ H R I h => ?_⟩
  refine Call_ (ld_blt I hg hm PyProof.Rows.boot_zip (PyProof.Rows.callWith_type1 (thn (ha.run pos pins s σ H _ I h) fun us s1 ⟨vs, H1, I1, r1, q1⟩ => ?_) hs hpl))
  obtain ⟨K1, K2, K3, xs, ys, zs, ex, a1, a2, a3, q⟩ := q1
  subst ex
  cases r1 with
  | cons r rr =>
    cases rr with
    | cons r' rr =>
      cases rr with
      | cons r'' rr =>
        cases rr
        obtain ⟨o1, B1, b1, c1, d1⟩ := SK.begins I1 a1 r
        obtain ⟨o2, B2, b2, c2, d2⟩ := SK.begins I1 a2 r'
        obtain ⟨o3, B3, b3, c3, d3⟩ := SK.begins I1 a3 r''
        refine zip_begins3 b1 b2 b3 c1 c2 c3 fun h' hz hTI hTO h1 h2 h3 hsz hk => wpAny_pyIter_zip hz ?_
        have I2 : Inv X pins σ H1 { s1 with heap := h' } := I1.kept (t' := s1.toks) hk
        refine ⟨s1.heap.objs.size + 5, [s1.heap.objs.size + 5, s1.heap.objs.size + 3, s1.heap.objs.size + 4, s1.heap.objs.size, s1.heap.objs.size + 1, s1.heap.objs.size + 2], _, _, H1, rfl, I2, turn_z3 K1 K2 K3 xs ys zs s1.heap.objs.size, ⟨hz, hTI, ⟨_, _, _, hTO⟩, d1 _ _ h1, d2 _ _ h2, d3 _ _ h3⟩, fun c hcm => ?_, q⟩
        have e' : c = s1.heap.objs.size + 5 ∨ c = s1.heap.objs.size + 3 ∨ c = s1.heap.objs.size + 4 ∨ c = s1.heap.objs.size ∨ c = s1.heap.objs.size + 1 ∨ c = s1.heap.objs.size + 2 := by simpa using hcm
        have hle : s1.heap.objs.size ≤ c := by rcases e' with q | q | q | q | q | q <;> rw [q] <;> (show (_ : Nat) ≤ _; omega)
        exact I1.fpOk hle (I1.hok.fresh hle)

/-! ### over data -/
section
variable {K : Fr} {O : List Addr} {H : Hp}
theorem chars_rp {z : Str} (h : PyData.strOk z = true) : ∀ (cs : List Nat), (∀ c ∈ cs, c ∈ z.cps.toList) → RpAll K O H (cs.map fun c => V.str ⟨#[c]⟩) (cs.map fun c => PyData.str ⟨#[c]⟩)
  | [], _ => .nil
  | c :: cs, hc => .cons (.str _ (strOk_sub h fun c' h' => (List.mem_singleton.mp (show c' ∈ [c] from h')) ▸ hc c List.mem_cons_self)) (chars_rp h cs fun x hx => hc x (List.mem_cons_of_mem _ hx))
theorem src_of {v : V} {d : D} {ds : List D} (r : Rp K O H v d) (e : seqD d = .ok ds) : ∃ (k : SK) (xs : List V), v = k.v ∧ (∀ O' H', Step O H O' H' → k.has H' xs) ∧ RpAll K O H xs ds := by
  cases d <;> simp only [seqD] at e <;> cases e
  · cases r with
    | str _ hz => exact ⟨.str _, _, rfl, fun _ _ _ => rfl, chars_rp hz _ fun c hc => hc⟩
  · cases r with
    | lst hs ha => exact ⟨.lst _, _, rfl, fun O' H' st => (ge_rd st.ge _ _ hs.1 hs.2).2, ha⟩
  · cases r with
    | tup hs ha => exact ⟨.tup _, _, rfl, fun O' H' st => st.ge _ _ hs.1 hs.2, ha⟩
end
def zipD2 : List D → R (List D)
  | [x, y] => (seqD x).bind fun xs => (seqD y).bind fun ys => .ok ((xs.zip ys).map fun p => .tuple [p.1, p.2])
  | _ => .stuck
def zipD3 : List D → R (List D)
  | [x, y, z] => (seqD x).bind fun xs => (seqD y).bind fun ys => (seqD z).bind fun zs => .ok (((xs.zip ys).zip zs).map fun p => .tuple [p.1.1, p.1.2, p.2])
  | _ => .stuck
theorem seqD_nx (d : D) (n : Str) : seqD d ≠ .exc n := by cases d <;> simp [seqD]
section
variable {X : Cx} {W : WX} {B Ω : List Nat} {a b c : Expr} {gs : Env → R (List D)} {pos p : Pos}
theorem pis_z2 {elts : List Expr} {kk : Nat} {tpos : Pos} (hg : Gl X "zip") (hm : X.mg "zip" = none) (ha : PAf X W B Ω [a, b] gs)
    (hs : starEach [a, b] X.env = (false, eval a X.env) :: starEach [b] X.env := by rfl) (hpl : (backTo pos (starEach [b] X.env)).any (·.1) = false := by rfl) : PIs X W B Ω (.Tuple elts kk tpos) (.Call (.Name "zip" p) [a, b] [] pos) (xZip zipD2 gs) :=
  PI.imp (pi_z2 hg hm ha hs hpl) fun σ H Q ⟨H0, O0, O, ρ, S, h⟩ => ⟨H0, O0, O, ρ, S, Good.bind (f := zipD2) h fun ds vs H1 e s1 r1 h1 => by
    clear e
    unfold zipD2 at h1
    split at h1
    · rename_i x y
      cases ex : seqD x with
      | stuck => rw [ex] at h1; exact h1.elim
      | exc n => exact absurd ex (seqD_nx _ _)
      | ok xs =>
      cases ey : seqD y with
      | stuck => rw [ex, ey] at h1; exact h1.elim
      | exc n => exact absurd ey (seqD_nx _ _)
      | ok ys =>
      rw [ex, ey] at h1
      cases r1 with
      | cons r1 r2 =>
        cases r2 with
        | cons r2 r3 =>
          cases r3
          obtain ⟨k1, us, rfl, a1, b1⟩ := src_of r1 ex
          obtain ⟨k2, ws, rfl, a2, b2⟩ := src_of r2 ey
          refine ⟨k1, k2, us, ws, rfl, a1 _ _ Step.refl, a2 _ _ Step.refl, h1.use fun O' H' _ st ht => ?_⟩
          refine ⟨fun i d ed => ?_, a1 _ _ st, a2 _ _ st, by rw [List.length_map, List.length_zip, b1.length, b2.length]⟩
          obtain ⟨x', y', ex', ey', rfl⟩ := zip_get ed
          obtain ⟨v, ev, rv⟩ := b1.get ex'
          obtain ⟨u, eu, ru⟩ := b2.get ey'
          refine ⟨⟨a1 _ _ st, a2 _ _ st, (List.getElem?_eq_some_iff.mp ev).1, (List.getElem?_eq_some_iff.mp eu).1⟩, fun z H2 ⟨T, v', u', e1, e2, e3, e4, e5⟩ => ?_⟩
          rw [ev] at e4; cases e4
          rw [eu] at e5; cases e5
          subst e1 e3
          exact ⟨same_upd e2, new_tup ht e2 (.cons (rv.step st) (.cons (ru.step st) .nil))⟩
    · exact h1.elim⟩
theorem pis_z3 {elts : List Expr} {kk : Nat} {tpos : Pos} (hg : Gl X "zip") (hm : X.mg "zip" = none) (ha : PAf X W B Ω [a, b, c] gs)
    (hs : starEach [a, b, c] X.env = (false, eval a X.env) :: starEach [b, c] X.env := by rfl) (hpl : (backTo pos (starEach [b, c] X.env)).any (·.1) = false := by rfl) : PIs X W B Ω (.Tuple elts kk tpos) (.Call (.Name "zip" p) [a, b, c] [] pos) (xZip zipD3 gs) :=
  PI.imp (pi_z3 hg hm ha hs hpl) fun σ H Q ⟨H0, O0, O, ρ, S, h⟩ => ⟨H0, O0, O, ρ, S, Good.bind (f := zipD3) h fun ds vs H1 e s1 r1 h1 => by
    clear e
    unfold zipD3 at h1
    split at h1
    · rename_i x y w
      cases ex : seqD x with
      | stuck => rw [ex] at h1; exact h1.elim
      | exc n => exact absurd ex (seqD_nx _ _)
      | ok xs =>
      cases ey : seqD y with
      | stuck => rw [ex, ey] at h1; exact h1.elim
      | exc n => exact absurd ey (seqD_nx _ _)
      | ok ys =>
      cases ew : seqD w with
      | stuck => rw [ex, ey, ew] at h1; exact h1.elim
      | exc n => exact absurd ew (seqD_nx _ _)
      | ok qs =>
      rw [ex, ey, ew] at h1
      cases r1 with
      | cons r1 r2 =>
        cases r2 with
        | cons r2 r3 =>
          cases r3 with
          | cons r3 r4 =>
            cases r4
            obtain ⟨k1, us, rfl, a1, b1⟩ := src_of r1 ex
            obtain ⟨k2, ws, rfl, a2, b2⟩ := src_of r2 ey
            obtain ⟨k3, ts, rfl, a3, b3⟩ := src_of r3 ew
            refine ⟨k1, k2, k3, us, ws, ts, rfl, a1 _ _ Step.refl, a2 _ _ Step.refl, a3 _ _ Step.refl, h1.use fun O' H' _ st ht => ?_⟩
            refine ⟨fun i d ed => ?_, a1 _ _ st, a2 _ _ st, a3 _ _ st, by rw [List.length_map, List.length_zip, List.length_zip, b1.length, b2.length, b3.length]⟩
            rw [List.getElem?_map] at ed
            cases eq : ((xs.zip ys).zip qs)[i]? with
            | none => rw [eq] at ed; cases ed
            | some q =>
              rw [eq] at ed; cases ed
              obtain ⟨h12, h3⟩ := List.getElem?_zip_eq_some.mp eq
              obtain ⟨h1', h2'⟩ := List.getElem?_zip_eq_some.mp h12
              obtain ⟨v, ev, rv⟩ := b1.get h1'
              obtain ⟨u, eu, ru⟩ := b2.get h2'
              obtain ⟨t, et, rt⟩ := b3.get h3
              refine ⟨⟨a1 _ _ st, a2 _ _ st, a3 _ _ st, (List.getElem?_eq_some_iff.mp ev).1, (List.getElem?_eq_some_iff.mp eu).1, (List.getElem?_eq_some_iff.mp et).1⟩, fun z H2 ⟨T, v', u', t', e1, e2, e3, e4, e5, e6⟩ => ?_⟩
              rw [ev] at e4; cases e4
              rw [eu] at e5; cases e5
              rw [et] at e6; cases e6
              subst e1 e3
              exact ⟨same_upd e2, new_tup ht e2 (.cons (rv.step st) (.cons (ru.step st) (.cons (rt.step st) .nil)))⟩
    · exact h1.elim⟩
/-! ### enumerate of a list, a tuple, a text -/
end
namespace MVE
open AutoSeq1 (wpAny_loadPart')
set_option maxHeartbeats 1000000 in
theorem meets_en {v : Value} {o : Obj} {H : Heap → Prop} (B : Begins v o H) :
    Meets (Builtin.«enumerate.__new__» ⟨[.type "enumerate", v], []⟩) (fun _ R s => H s.heap ∧
      R (.ok (.ret (.ref (s.heap.push o).objs.size))) { s with heap := (s.heap.push o).push { cls := .type "enumerate", data := .fields #[.none, .bool false, .ref s.heap.objs.size, rawInt 0, .none, .none] } }) :=
  .of_wp fun prog w A R s h => by
    obtain ⟨hp, g, d, tk, os⟩ := s; obtain ⟨h1, h⟩ := h
    have hsub := sub_enumerate
    have q1 : ∀ {A' : Around} {E : Value → Shared → Prop} {Q : Value → Shared → Prop}, Q (.ref hp.objs.size) ⟨hp.push o, g, d, tk, os⟩ → wpAny (model prog w) A' (pyIter v) Q E ⟨hp, g, d, tk, os⟩ :=
      fun q => B.iter prog w _ _ ⟨hp, g, d, tk, os⟩ _ h1 q
    wp_walk using q1
    refine wpAny_stack_any fun st => wpAny_pure ?_
    split
    · rename_i c _ _ _ _ _
      cases (c == Value.type "enumerate")
      · wp_walk using q1
        exact ⟨_, rfl, h⟩
      · wp_walk using q1
        exact ⟨_, rfl, h⟩
    · wp_walk using q1
      exact ⟨_, rfl, h⟩
theorem en_begins {prog : Program} {w : World} {A : Around} {E : Value → Shared → Prop} {s : Shared} {v : Value} {o : Obj} {H : Heap → Prop} {Q : Value → Shared → Prop} (B : Begins v o H) (h1 : H s.heap)
    (h : ∀ h', IsEnum h' (s.heap.objs.size + 1) s.heap.objs.size 0 .none → h'.get? s.heap.objs.size = some o → h'.objs.size = s.heap.objs.size + 2 →
      (∀ b o, s.heap.get? b = some o → h'.get? b = some o) → Q (.ref (s.heap.objs.size + 1)) { s with heap := h' }) :
    wpAny (model prog w) A (call (.type "enumerate") [v]) Q E s := by
  refine callType_new F.called_enumerate (by decide) (F.typeCall_enumerate_1 _) (F.newCall_enumerate_1 _) (fun obj => F.args_object_init_2 obj _) F.entry_enumerate_new
    (meets_en B) ⟨h1, ?_⟩
  have hz : (s.heap.push o).objs.size = s.heap.objs.size + 1 := Heap.size_push ..
  show _ ∧ _
  rw [hz]
  have he : IsEnum ((s.heap.push o).push { cls := .type "enumerate", data := .fields #[.none, .bool false, .ref s.heap.objs.size, rawInt 0, .none, .none] }) (s.heap.objs.size + 1) s.heap.objs.size 0 .none := by
    have := Heap.get?_push_size (s.heap.push o) (o := { cls := .type "enumerate", data := .fields #[.none, .bool false, .ref s.heap.objs.size, rawInt 0, .none, .none] }) rfl
    rw [hz] at this; exact this
  refine ⟨⟨_, he, rfl⟩, h _ he (Heap.get?_push_of_some _ (Heap.get?_push_size _ B.free)) (by rw [Heap.size_push, hz]) fun b o x => Heap.get?_push_of_some _ (Heap.get?_push_of_some _ x)⟩
end MVE
def ItE (K : SK) (xs : List V) : It :=
  ⟨fun i H => K.has H xs ∧ i < xs.length,
    fun i H v H' => ∃ T x, v = .ref T ∧ H T = none ∧ H' = upd H T (.tup [.int (i : Nat), x]) ∧ xs[i]? = some x,
    fun i H => K.has H xs ∧ i = xs.length⟩
theorem turn_eS {P : Program} {w : World} {K : PySem.W.Frag} {elts : List Expr} {kk : Nat} {tpos : Pos} (k : SK) (xs : List V) (n : Nat) :
    Turn P w K (.Tuple elts kk tpos) (ItE k xs) [n + 1, n] (n + 1) (fun i h => (∃ old, IsEnum h (n + 1) n ((i : Nat) : Int) old) ∧ k.st h n i) where
  mem := by simp
  obj := fun i h st c hc => by
    obtain ⟨⟨old, he⟩, h1⟩ := st
    have e' : c = n + 1 ∨ c = n := by simpa using hc
    rcases e' with q | q
    · rw [q]; exact ⟨_, he, fun v q => nomatch q⟩
    · rw [q]; exact SK.obj h1
  keep := fun i h h' st kp => by
    obtain ⟨⟨old, he⟩, h1⟩ := st
    exact ⟨⟨old, kp _ (by simp) _ he⟩, SK.keep (fun o q => kp n (by simp) o q) h1⟩
  item := by
    intro X hP hw hK hc i pins s σ H E I hf st hg
    subst hP hw hK
    obtain ⟨⟨old, he⟩, h1⟩ := st
    obtain ⟨a1, l1⟩ := hg
    have hn : ∀ b ∈ [n + 1, n], H b = none := fun b hb => (hf b hb).1
    obtain ⟨fp1, P1, St1, D1, s1, m1, f1, v1, k1⟩ := SK.draws I (hn n (by simp)) a1 h1
    have hh := I.ok.hd hc
    have hzl : n + 1 < s.heap.objs.size := Heap.lt_size he
    have far : (n + 1 : Addr) ∉ fp1 := fun z => by
      rcases f1 _ z with q | q
      · exact nq (by omega : n + 1 ≠ n) q
      · exact q (hn _ (by simp))
    refine wpAny_pyNext_enum_itemD (D1 _ hh) he s1 l1 (nq (by omega)) far fun x1 h' tk y1 ho h1' hT hsz hk => ?_
    obtain ⟨x, hx, ru⟩ := v1 i x1 y1
    refine ⟨_, rfl, wpAny_letOwnedTupleGo_enum (s := { s with heap := h', toks := tk + 1 }) ho fun h'' he' sb => ?_⟩
    have hT2 : h''.get? s.heap.objs.size = some { cls := .type "tuple", data := .seq #[.int i tk, x1] } := (sb.2 _ (Nat.ne_of_gt hzl)).trans hT
    have new : ObjOk X.prog X.w (upd H s.heap.objs.size (.tup [.int (i : Nat), x])) h'' s.heap.objs.size (.tup [.int (i : Nat), x]) :=
      ⟨by show 2 ≤ sizeLine; decide, [.int i tk, x1], .cons ⟨_, rfl⟩ (.cons ru .nil), ⟨_, hT2, rfl, _, rfl⟩⟩
    have I1 : Inv X pins σ (upd H s.heap.objs.size (.tup [.int (i : Nat), x])) { s with heap := h'', toks := tk + 1 } :=
      I.turnedNew (t' := tk + 1) (ch := [n + 1, n]) (fun c o hb q => (sb.2 c (fun q' => hb (by simp [q']))).trans (hk c o (fun q' => hb (by simp [q'])) (fun q' => hb (by simp [q'])) q)) hf (Nat.le_refl _) new
    refine ⟨.ref s.heap.objs.size, _, I1, rfl, ⟨_, x, rfl, I.hok.fresh (Nat.le_refl _), rfl, hx⟩, ⟨⟨x1, ?_⟩, SK.keep (fun o q => (sb.2 _ (nq (by omega))).trans q) (k1 _ _ h1')⟩, fun c hcm => ?_⟩
    · have e1 : ((i + 1 : Nat) : Int) = (i : Int) + 1 := by omega
      rw [e1]; exact he'
    · have hlt : c < s.heap.objs.size := by
        have e' : c = n + 1 ∨ c = n := by simpa using hcm
        refine Nat.lt_of_le_of_lt ?_ hzl
        rcases e' with q | q <;> rw [q] <;> (show (_ : Nat) ≤ _; omega)
      rw [upd_ne (Nat.ne_of_lt hlt)]
      exact hn c hcm
  done := by
    intro X hP hw hK hc i pins s σ H E I hf st hg
    subst hP hw hK
    obtain ⟨⟨old, he⟩, h1⟩ := st
    obtain ⟨a1, hend⟩ := hg
    subst hend
    have hn : ∀ b ∈ [n + 1, n], H b = none := fun b hb => (hf b hb).1
    obtain ⟨fp1, P1, St1, D1, s1, m1, f1, v1, k1⟩ := SK.draws I (hn n (by simp)) a1 h1
    have hh := I.ok.hd hc
    exact wpAny_pyNext_enum_endD (D1 _ hh) he s1 fun h' hk => ⟨rfl, I.turnedL (t' := s.toks) (ch := [n + 1, n]) (fun c o hb q =>
      hk c o (fun q' => hb (by simp [q'])) q) hf⟩
  self := fun A i s Q E st h => let ⟨⟨_, he⟩, _⟩ := st; wpAny_pyIter_enum he h
def iEnS (ta : TA) : TI := fun σ H R => ta σ H fun vs H1 => ∃ k xs, vs = [SK.v k] ∧ k.has H1 xs ∧ R (ItE k xs) H1
theorem pi_eS {X : Cx} {e : Expr} {ta : TA} {p pos tpos : Pos} {elts : List Expr} {kk : Nat} (hg : Gl X "enumerate") (hm : X.mg "enumerate" = none) (ha : PA X [e] ta) (hs : starEach [e] X.env = [(false, eval e X.env)] := by rfl) :
    PI X (.Tuple elts kk tpos) (.Call (.Name "enumerate" p) [e] [] pos) (iEnS ta) := by
  refine ⟨fun pins s σ H R I h => ?_⟩
  refine Call_ (ld_blt I hg hm boot_enumerate (PyProof.Rows.callWith_type1 (thn (ha.run pos pins s σ H _ I h) fun us s1 ⟨vs, H1, I1, r1, q1⟩ => ?_) hs rfl))
  obtain ⟨k, xs, ex, a1, q⟩ := q1
  subst ex
  cases r1 with
  | cons r rr =>
    cases rr
    obtain ⟨o1, B1, b1, c1, d1⟩ := SK.begins I1 a1 r
    refine MVE.en_begins b1 c1 fun h' he hit hsz hk => wpAny_pyIter_enum he ?_
    have I2 : Inv X pins σ H1 { s1 with heap := h' } := I1.kept (t' := s1.toks) hk
    refine ⟨s1.heap.objs.size + 1, [s1.heap.objs.size + 1, s1.heap.objs.size], _, _, H1, rfl, I2, turn_eS k xs s1.heap.objs.size, ⟨⟨.none, he⟩, d1 _ _ hit⟩, fun b hb => ?_, q⟩
    have e' : b = s1.heap.objs.size + 1 ∨ b = s1.heap.objs.size := by simpa using hb
    have hle : s1.heap.objs.size ≤ b := by
      rcases e' with z | z
      · rw [z]; exact Nat.le_add_right _ _
      · rw [z]; exact Nat.le_refl _
    exact I1.fpOk hle (I1.hok.fresh hle)
def enumD : List D → R (List D)
  | [x] => (seqD x).bind fun xs => .ok (xs.zipIdx.map fun p => .tuple [.int (p.2 : Nat), p.1])
  | _ => .stuck
section
variable {X : Cx} {W : WX} {B Ω : List Nat} {a b c : Expr} {gs : Env → R (List D)} {pos p : Pos}
theorem pis_enum {elts : List Expr} {kk : Nat} {tpos : Pos} (hg : Gl X "enumerate") (hm : X.mg "enumerate" = none) (ha : PAf X W B Ω [a] gs) (hs : starEach [a] X.env = [(false, eval a X.env)] := by rfl) : PIs X W B Ω (.Tuple elts kk tpos) (.Call (.Name "enumerate" p) [a] [] pos) (xZip enumD gs) :=
  PI.imp (pi_eS hg hm ha hs) fun σ H Q ⟨H0, O0, O, ρ, S, h⟩ => ⟨H0, O0, O, ρ, S, Good.bind (f := enumD) h fun ds vs H1 e s1 r1 h1 => by
    clear e
    unfold enumD at h1
    split at h1
    · rename_i x
      cases ex : seqD x with
      | stuck => rw [ex] at h1; exact h1.elim
      | exc n => exact absurd ex (seqD_nx _ _)
      | ok xs =>
      rw [ex] at h1
      cases r1 with
      | cons r1 r2 =>
        cases r2
        obtain ⟨k1, us, rfl, a1, b1⟩ := src_of r1 ex
        refine ⟨k1, us, rfl, a1 _ _ Step.refl, h1.use fun O' H' _ st ht => ?_⟩
        refine ⟨fun i d ed => ?_, a1 _ _ st, by rw [List.length_map, List.length_zipIdx, b1.length]⟩
        rw [List.getElem?_map, List.getElem?_zipIdx] at ed
        cases eq : xs[i]? with
        | none => rw [eq] at ed; cases ed
        | some q =>
          rw [eq] at ed; cases ed
          obtain ⟨v, ev, rv⟩ := b1.get eq
          refine ⟨⟨a1 _ _ st, (List.getElem?_eq_some_iff.mp ev).1⟩, fun z H2 ⟨T, v', e1, e2, e3, e4⟩ => ?_⟩
          rw [ev] at e4; cases e4
          subst e1 e3
          refine ⟨same_upd e2, new_tup ht e2 (.cons ?_ (.cons (rv.step st) .nil))⟩
          simp only [Nat.zero_add]
          exact .int _
    · exact h1.elim⟩
end
end MV

set_option Elab.async false
set_option linter.all false
set_option maxRecDepth 100000
set_option maxHeartbeats 4000000
/-! ### zip whose pairs go to one name -/
namespace MVY
open PySem PySem.Calls PyProof.Rows PySem.Spec
abbrev IsZipG (h : Heap) (z TI TO : Addr) (F : Value) (f : Bool) : Prop :=
  h.get? z = some { cls := .type "zip", dict := none, data := .fields #[F, .bool f, .bool false, .ref TI, .ref TO], slots := #[] }
def OutF (F : Value) : Prop := F = .none ∨ ∃ T : Addr, F = rawInt T
section
variable {prog : Program} {w : World} {A : Around} {E : Value → Shared → Prop} {s : Shared} {z TI TO i1 i2 : Addr} {fp1 fp2 : List Addr} {n1 n2 i : Nat} {P1 P2 : Nat → Value → Prop} {St1 St2 : Nat → Heap → Prop} {a1 a2 Fv : Value} {f : Bool}
theorem alive_any {a : Addr} {Q : Option Obj → Shared → Prop} (h : Q (s.heap.get? a) s) : wpAny (model prog w) A (loadIfAlive a) Q E s := fun _ _ _ => h
theorem zipN_free (hz : IsZipG s.heap z TI TO Fv f) (hF : OutF Fv) : wpAny (model prog w) A (Builtin.SmallTypes.ownedTupleIsFree (.ref z)) (fun b s' => (b = true ∧ s' = s) ∨ (b = false ∧ ∃ h', IsZipG h' z TI TO Fv true ∧ Heap.SameBut z s.heap h' ∧ s' = { s with heap := h' })) E s := by
  unfold Builtin.SmallTypes.ownedTupleIsFree
  rcases hF with rfl | ⟨T, rfl⟩
  · exact wpAny_bind (wpAny_field hz rfl (x := .none) rfl (wpAny_pure (.inl ⟨rfl, rfl⟩)))
  · refine wpAny_bind (wpAny_field hz rfl (x := rawInt T) rfl ?_)
    show wpAny _ _ (loadIfAlive ((T : Int).toNat) >>= _) _ _ _
    rw [Int.toNat_natCast]
    refine wpAny_bind (alive_any ?_)
    cases hT : s.heap.get? T with
    | none =>
      simp only [Option.isNone_none, if_true]
      exact wpAny_pure (.inl ⟨rfl, rfl⟩)
    | some oT =>
      simp only [Option.isNone_some, Bool.false_eq_true, if_false]
      refine wpAny_bind (wpAny_field hz rfl (x := .bool f) rfl ?_)
      cases f with
      | true =>
        rw [if_neg (show ¬ ((Value.bool true != Value.bool true) = true) from Bool.false_ne_true)]
        exact wpAny_pure (.inr ⟨rfl, s.heap, hz, Heap.SameBut.refl _ _, rfl⟩)
      | false =>
        rw [if_pos (show (Value.bool false != Value.bool true) = true from rfl)]
        exact wpAny_bind (wpAny_setField_rec hz (by simp) fun h₁ hz₁ hs₁ => wpAny_pure (.inr ⟨rfl, h₁, hz₁, hs₁, rfl⟩))
theorem zipN_next_item {Q : Value → Shared → Prop} (S : ZipSep2 z TI TO i1 i2 fp1 fp2) (D1 : Draws prog w A i1 fp1 n1 P1 St1) (D2 : Draws prog w A i2 fp2 n2 P2 St2)
    (hz : IsZipG s.heap z TI TO Fv f) (hF : OutF Fv) (hTI : IsTupOf2 s.heap TI (.ref i1) (.ref i2)) (hTO : IsTupOf2 s.heap TO a1 a2) (st1 : St1 i s.heap) (st2 : St2 i s.heap) (hlt1 : i < n1) (hlt2 : i < n2)
    (hQ : ∀ x1 x2 h' tk F' f', OutF F' → P1 i x1 → P2 i x2 → IsZipG h' z TI TO F' f' → (∃ b1 b2, IsTupOf2 h' TO b1 b2) → St1 (i + 1) h' → St2 (i + 1) h' → IsTupOf2 h' s.heap.objs.size x1 x2 → h'.objs.size = s.heap.objs.size + 1 →
      (∀ c o, c ≠ z → c ≠ TO → c ≠ i1 → c ≠ i2 → s.heap.get? c = some o → h'.get? c = some o) → Q (.ref s.heap.objs.size) { s with heap := h', toks := tk }) :
    wpAny (model prog w) A (Builtin.«zip.__next__» ⟨[.ref z], []⟩) (fun fin s' => ∃ v, fin = .done (.ret v) ∧ Q v s') E s := by
  obtain ⟨hp, g, d, tk0, os⟩ := s
  show wpAny _ _ (field (.ref z) 2 >>= _) _ _ _
  refine wpAny_bind (wpAny_field hz rfl (x := .bool false) rfl ?_)
  show wpAny _ _ (field (.ref z) 3 >>= _) _ _ _
  refine wpAny_bind (wpAny_field hz rfl (x := .ref TI) rfl ?_)
  refine wpAny_bind (wpAny_seqItems hTI rfl ?_)
  show wpAny _ _ (Builtin.SmallTypes.ownedTupleIsFree (.ref z) >>= _) _ _ _
  refine wpAny_bind (wpAny_mono (zipN_free (E := E) hz hF) (fun b s' hb => ?_) fun _ _ h => h)
  rcases hb with ⟨rfl, rfl⟩ | ⟨rfl, h₁, hz₁, hs₁, rfl⟩
  · simp only [if_true]
    refine wpAny_bind (wpAny_rule ?_)
    refine wpAny_bind (wpAny_field hz rfl (x := .ref TO) rfl ?_)
    refine wpAny_bind (wpAny_setField_rec hz (by simp) fun g0 hz0 hs0 => ?_)
    replace hz0 : IsZipG g0 z TI TO .ellipsis f := hz0
    replace hs0 : Heap.SameBut z hp g0 := hs0
    refine wpAny_bind ?_
    simp only [List.zipIdx_cons, List.zipIdx_nil, List.forIn_cons, List.forIn_nil]
    refine wpAny_bind (wpAny_bind (wpAny_onRaise ?_))
    show wpAny _ _ (Builtin.SmallTypes.nextOf (.ref i1) >>= _) _ _ ⟨g0, g, d, tk0, os⟩
    refine wpAny_bind (D1.item i _ _ _ hlt1 (D1.over st1 hs0 S.zf1) fun x1 p1 tk1 hx1 sn1 hp1 => wpAny_pure ?_)
    replace hp1 : Heap.SameBut i1 g0 p1 := hp1
    have hU1 : IsTupOf2 p1 TO a1 a2 := hp1.extBut _ _ S.Ti1 (hs0.extBut _ _ S.TOz hTO)
    refine wpAny_bind (wpAny_seqItems (s := ⟨p1, g, d, tk1, os⟩) hU1 rfl ?_)
    refine wpAny_bind (updateSeq_IsTupOf2 (s := ⟨p1, g, d, tk1, os⟩) hU1 fun g1 hT1 hs1 => ?_)
    replace hT1 : IsTupOf2 g1 TO x1 a2 := hT1
    replace hs1 : Heap.SameBut TO p1 g1 := hs1
    refine wpAny_bind (wpAny_letGo (wpAny_pure ?_))
    refine wpAny_bind (wpAny_bind (wpAny_onRaise ?_))
    show wpAny _ _ (Builtin.SmallTypes.nextOf (.ref i2) >>= _) _ _ ⟨g1, g, d, tk1, os⟩
    refine wpAny_bind (D2.item i _ _ _ hlt2 (D2.over (D2.over (D2.over st2 hs0 S.zf2) hp1 S.sep1_2) hs1 S.Tf2) fun x2 p2 tk2 hx2 sn2 hp2 => wpAny_pure ?_)
    replace hp2 : Heap.SameBut i2 g1 p2 := hp2
    have hU2 : IsTupOf2 p2 TO x1 a2 := hp2.extBut _ _ S.Ti2 hT1
    refine wpAny_bind (wpAny_seqItems (s := ⟨p2, g, d, tk2, os⟩) hU2 rfl ?_)
    refine wpAny_bind (updateSeq_IsTupOf2 (s := ⟨p2, g, d, tk2, os⟩) hU2 fun g2 hT2 hs2 => ?_)
    replace hT2 : IsTupOf2 g2 TO x1 x2 := hT2
    replace hs2 : Heap.SameBut TO p2 g2 := hs2
    refine wpAny_bind (wpAny_letGo (wpAny_pure (wpAny_pure ?_)))
    refine wpAny_bind (wpAny_seqItems (s := ⟨g2, g, d, tk2, os⟩) hT2 rfl ?_)
    refine wpAny_bind (wpAny_newTuple ?_)
    have hsz : g2.objs.size = hp.objs.size := by rw [hs2.1, hp2.1, hs1.1, hp1.1, hs0.1]
    have hzz : IsZipG g2 z TI TO .ellipsis f := (hs2.extBut _ _ S.TOz.symm (hp2.extBut _ _ S.zi2 (hs1.extBut _ _ S.TOz.symm (hp1.extBut _ _ S.zi1 hz0))))
    have hkk : ∀ c o, c ≠ z → c ≠ TO → c ≠ i1 → c ≠ i2 → hp.get? c = some o → g2.get? c = some o := fun c o cz cT c1 c2 e =>
      (hs2.extBut _ _ cT (hp2.extBut _ _ c2 (hs1.extBut _ _ cT (hp1.extBut _ _ c1 (hs0.extBut _ _ cz e)))))
    have hj1 : St1 (i + 1) g2 := (D1.over (D1.over (D1.over sn1 hs1 S.Tf1) hp2 S.sep2_1) hs2 S.Tf1)
    have hj2 : St2 (i + 1) g2 := (D2.over sn2 hs2 S.Tf2)
    have hzlt : z < g2.objs.size := Heap.lt_size hzz
    show wpAny _ _ (Builtin.SmallTypes.ownedTupleHandOut (.ref z) (.ref g2.objs.size) >>= _) _ _ ⟨g2.push { cls := .type "tuple", data := .seq #[x1, x2] }, g, d, tk2, os⟩
    refine wpAny_bind ?_
    unfold Builtin.SmallTypes.ownedTupleHandOut
    have hz₆ : IsZipG (g2.push { cls := .type "tuple", data := .seq #[x1, x2] }) z TI TO .ellipsis f := Heap.get?_push_of_some _ hzz
    refine wpAny_bind (wpAny_setField_rec hz₆ (by simp) fun h₇ hz₇ hs₇ => ?_)
    replace hz₇ : IsZipG h₇ z TI TO (rawInt g2.objs.size) f := hz₇
    refine wpAny_setField_rec hz₇ (by simp) fun h₈ hz₈ hs₈ => ?_
    replace hz₈ : IsZipG h₈ z TI TO (rawInt g2.objs.size) false := hz₈
    replace hs₇ : Heap.SameBut z (g2.push { cls := .type "tuple", data := .seq #[x1, x2] }) h₇ := hs₇
    replace hs₈ : Heap.SameBut z h₇ h₈ := hs₈
    have up : ∀ c o, c ≠ z → g2.get? c = some o → h₈.get? c = some o := fun c o c1 e => hs₈.extBut _ _ c1 (hs₇.extBut _ _ c1 (Heap.get?_push_of_some _ e))
    have hT₈ : IsTupOf2 h₈ g2.objs.size x1 x2 := hs₈.extBut _ _ (Nat.ne_of_gt hzlt) (hs₇.extBut _ _ (Nat.ne_of_gt hzlt) (Heap.get?_push_size _ rfl))
    have hz8 : h₈.objs.size = g2.objs.size + 1 := by rw [hs₈.1, hs₇.1, Heap.size_push]
    rw [hsz] at hz₈ hT₈ hz8
    refine wpAny_pure ⟨_, rfl, ?_⟩
    show Q (.ref g2.objs.size) ⟨h₈, g, d, tk2, os⟩
    rw [hsz]
    exact hQ x1 x2 h₈ tk2 _ _ (.inr ⟨_, rfl⟩) hx1 hx2 hz₈ ⟨_, _, up _ _ S.TOz hT2⟩ (D1.frame _ _ _ hj1 fun b hb o e => up b o (fun q => S.zf1 (q ▸ hb)) e) (D2.frame _ _ _ hj2 fun b hb o e => up b o (fun q => S.zf2 (q ▸ hb)) e) hT₈ hz8 fun c o cz cT c1 c2 e => up c o cz (hkk c o cz cT c1 c2 e)
  · replace hs₁ : Heap.SameBut z hp h₁ := hs₁
    simp only [Bool.false_eq_true, if_false]
    refine wpAny_bind ?_
    rw [← Array.forIn_toList]
    simp only [List.forIn_cons, List.forIn_nil]
    refine wpAny_bind (wpAny_bind (wpAny_holding ?_))
    show wpAny _ _ (Builtin.SmallTypes.nextOf (.ref i1) >>= _) _ _ _
    refine wpAny_bind (D1.item i _ _ _ hlt1 (D1.over st1 hs₁ S.zf1) fun x1 p1 tk1 hx1 sn1 hp1 => wpAny_pure ?_)
    replace hp1 : Heap.SameBut i1 h₁ p1 := hp1
    refine wpAny_pure ?_
    refine wpAny_bind (wpAny_bind (wpAny_holding ?_))
    show wpAny _ _ (Builtin.SmallTypes.nextOf (.ref i2) >>= _) _ _ _
    refine wpAny_bind (D2.item i _ _ _ hlt2 (D2.over (D2.over st2 hs₁ S.zf2) hp1 S.sep1_2) fun x2 p2 tk2 hx2 sn2 hp2 => wpAny_pure ?_)
    replace hp2 : Heap.SameBut i2 p1 p2 := hp2
    refine wpAny_pure (wpAny_pure ?_)
    show wpAny _ _ (newTuple [x1, x2] >>= _) _ _ _
    refine wpAny_bind (wpAny_newTuple ?_)
    have hsz : p2.objs.size = hp.objs.size := by rw [hp2.1, hp1.1, hs₁.1]
    have hz₃ : IsZipG p2 z TI TO Fv true := hp2.extBut _ _ S.zi2 (hp1.extBut _ _ S.zi1 hz₁)
    have hk : ∀ c o, c ≠ z → c ≠ i1 → c ≠ i2 → hp.get? c = some o → p2.get? c = some o := fun c o c1 c2 c3 e => hp2.extBut _ _ c3 (hp1.extBut _ _ c2 (hs₁.extBut _ _ c1 e))
    have hj1 : St1 (i + 1) p2 := D1.over sn1 hp2 S.sep2_1
    refine wpAny_pure ⟨_, rfl, ?_⟩
    show Q (.ref p2.objs.size) _
    have hp' : IsTupOf2 (p2.push { cls := .type "tuple", data := .seq #[x1, x2] }) p2.objs.size x1 x2 := Heap.get?_push_size _ rfl
    have hz4 : (p2.push { cls := .type "tuple", data := .seq #[x1, x2] }).objs.size = p2.objs.size + 1 := Heap.size_push ..
    rw [hsz] at hp' hz4 ⊢
    exact hQ x1 x2 _ tk2 _ _ hF hx1 hx2 (Heap.get?_push_of_some _ hz₃) ⟨_, _, Heap.get?_push_of_some _ (hk _ _ S.TOz S.Ti1 S.Ti2 hTO)⟩ (D1.frame _ _ _ hj1 fun b hb o e => Heap.get?_push_of_some _ e) (D2.frame _ _ _ sn2 fun b hb o e => Heap.get?_push_of_some _ e) hp' hz4 fun c o c1 _ c2 c3 e => Heap.get?_push_of_some _ (hk c o c1 c2 c3 e)
theorem zipN_next_end {Q : Fin → Shared → Prop} (S : ZipSep2 z TI TO i1 i2 fp1 fp2) (D1 : Draws prog w A i1 fp1 n1 P1 St1) (D2 : Draws prog w A i2 fp2 n2 P2 St2)
    (hz : IsZipG s.heap z TI TO Fv f) (hF : OutF Fv) (hTI : IsTupOf2 s.heap TI (.ref i1) (.ref i2)) (hTO : IsTupOf2 s.heap TO a1 a2) (st1 : St1 i s.heap) (st2 : St2 i s.heap) (hle1 : i ≤ n1) (hle2 : i ≤ n2) (hend : i = n1 ∨ i = n2)
    (hE : ∀ h' tk e, (∀ c o, c ≠ z → c ≠ TO → c ≠ i1 → c ≠ i2 → s.heap.get? c = some o → h'.get? c = some o) → (∃ o, h'.get? e = some o ∧ o.cls = .type "StopIteration") → E (.ref e) { s with heap := h', toks := tk }) :
    wpAny (model prog w) A (Builtin.«zip.__next__» ⟨[.ref z], []⟩) Q E s := by
  obtain ⟨hp, g, d, tk0, os⟩ := s
  show wpAny _ _ (field (.ref z) 2 >>= _) _ _ _
  refine wpAny_bind (wpAny_field hz rfl (x := .bool false) rfl ?_)
  show wpAny _ _ (field (.ref z) 3 >>= _) _ _ _
  refine wpAny_bind (wpAny_field hz rfl (x := .ref TI) rfl ?_)
  refine wpAny_bind (wpAny_seqItems hTI rfl ?_)
  show wpAny _ _ (Builtin.SmallTypes.ownedTupleIsFree (.ref z) >>= _) _ _ _
  refine wpAny_bind (wpAny_mono (zipN_free (E := E) hz hF) (fun b s' hb => ?_) fun _ _ h => h)
  rcases hb with ⟨rfl, rfl⟩ | ⟨rfl, h₁, hz₁, hs₁, rfl⟩
  · simp only [if_true]
    refine wpAny_bind (wpAny_rule ?_)
    refine wpAny_bind (wpAny_field hz rfl (x := .ref TO) rfl ?_)
    refine wpAny_bind (wpAny_setField_rec hz (by simp) fun g0 hz0 hs0 => ?_)
    replace hz0 : IsZipG g0 z TI TO .ellipsis f := hz0
    replace hs0 : Heap.SameBut z hp g0 := hs0
    refine wpAny_bind ?_
    simp only [List.zipIdx_cons, List.zipIdx_nil, List.forIn_cons, List.forIn_nil]
    refine wpAny_bind (wpAny_bind (wpAny_onRaise ?_))
    show wpAny _ _ (Builtin.SmallTypes.nextOf (.ref i1) >>= _) _ _ ⟨g0, g, d, tk0, os⟩
    by_cases hlt1 : i < n1
    · refine wpAny_bind (D1.item i _ _ _ hlt1 (D1.over st1 hs0 S.zf1) fun x1 p1 tk1 hx1 sn1 hp1 => wpAny_pure ?_)
      replace hp1 : Heap.SameBut i1 g0 p1 := hp1
      have hU1 : IsTupOf2 p1 TO a1 a2 := hp1.extBut _ _ S.Ti1 (hs0.extBut _ _ S.TOz hTO)
      refine wpAny_bind (wpAny_seqItems (s := ⟨p1, g, d, tk1, os⟩) hU1 rfl ?_)
      refine wpAny_bind (updateSeq_IsTupOf2 (s := ⟨p1, g, d, tk1, os⟩) hU1 fun g1 hT1 hs1 => ?_)
      replace hT1 : IsTupOf2 g1 TO x1 a2 := hT1
      replace hs1 : Heap.SameBut TO p1 g1 := hs1
      refine wpAny_bind (wpAny_letGo (wpAny_pure ?_))
      have hi2 : i = n2 := by omega
      refine wpAny_bind (wpAny_bind (wpAny_onRaise ?_))
      show wpAny _ _ (Builtin.SmallTypes.nextOf (.ref i2) >>= _) _ _ ⟨g1, g, d, tk1, os⟩
      refine wpAny_bind (D2.done ⟨g1, g, d, tk1, os⟩ _ _ (by rw [← hi2]; exact (D2.over (D2.over (D2.over st2 hs0 S.zf2) hp1 S.sep1_2) hs1 S.Tf2)) fun q e hq he => ?_)
      replace hq : Heap.ExtBut i2 g1 q := hq
      obtain ⟨oe, hoe, hce⟩ := he
      replace hoe : q.get? e = some oe := hoe
      have hzq : IsZipG q z TI TO .ellipsis f := hq _ _ S.zi2 (hs1.extBut _ _ S.TOz.symm (hp1.extBut _ _ S.zi1 hz0))
      have hez : e ≠ z := fun x => by subst x; rw [hzq] at hoe; cases hoe; simp at hce
      refine wpAny_setField_rec (s := ⟨q, g, d, tk1, os⟩) hzq (by simp) fun q' _ hq' => ?_
      replace hq' : Heap.SameBut z q q' := hq'
      exact hE q' tk1 e (fun c o cz cT c1 c2 x => hq'.extBut _ _ cz (hq _ _ c2 (hs1.extBut _ _ cT (hp1.extBut _ _ c1 (hs0.extBut _ _ cz x))))) ⟨oe, hq'.extBut _ _ hez hoe, hce⟩
    · have hi1 : i = n1 := by omega
      refine wpAny_bind (D1.done ⟨g0, g, d, tk0, os⟩ _ _ (by rw [← hi1]; exact (D1.over st1 hs0 S.zf1)) fun q e hq he => ?_)
      replace hq : Heap.ExtBut i1 g0 q := hq
      obtain ⟨oe, hoe, hce⟩ := he
      replace hoe : q.get? e = some oe := hoe
      have hzq : IsZipG q z TI TO .ellipsis f := hq _ _ S.zi1 hz0
      have hez : e ≠ z := fun x => by subst x; rw [hzq] at hoe; cases hoe; simp at hce
      refine wpAny_setField_rec (s := ⟨q, g, d, tk0, os⟩) hzq (by simp) fun q' _ hq' => ?_
      replace hq' : Heap.SameBut z q q' := hq'
      exact hE q' tk0 e (fun c o cz cT c1 c2 x => hq'.extBut _ _ cz (hq _ _ c1 (hs0.extBut _ _ cz x))) ⟨oe, hq'.extBut _ _ hez hoe, hce⟩
  · replace hs₁ : Heap.SameBut z hp h₁ := hs₁
    simp only [Bool.false_eq_true, if_false]
    refine wpAny_bind ?_
    rw [← Array.forIn_toList]
    simp only [List.forIn_cons, List.forIn_nil]
    refine wpAny_bind (wpAny_bind (wpAny_holding ?_))
    show wpAny _ _ (Builtin.SmallTypes.nextOf (.ref i1) >>= _) _ _ _
    by_cases hlt1 : i < n1
    · refine wpAny_bind (D1.item i _ _ _ hlt1 (D1.over st1 hs₁ S.zf1) fun x1 p1 tk1 hx1 sn1 hp1 => wpAny_pure ?_)
      replace hp1 : Heap.SameBut i1 h₁ p1 := hp1
      have hi2 : i = n2 := by omega
      refine wpAny_pure ?_
      refine wpAny_bind (wpAny_bind (wpAny_holding ?_))
      show wpAny _ _ (Builtin.SmallTypes.nextOf (.ref i2) >>= _) _ _ _
      refine wpAny_bind (D2.done ⟨p1, g, d, tk1, os⟩ _ _ (by rw [← hi2]; exact (D2.over (D2.over st2 hs₁ S.zf2) hp1 S.sep1_2)) fun q e hq he => ?_)
      replace hq : Heap.ExtBut i2 p1 q := hq
      exact hE q tk1 e (fun c o cz cT c1 c2 x => hq _ _ c2 (hp1.extBut _ _ c1 (hs₁.extBut _ _ cz x))) he
    · have hi1 : i = n1 := by omega
      refine wpAny_bind (D1.done ⟨h₁, g, d, tk0, os⟩ _ _ (by rw [← hi1]; exact (D1.over st1 hs₁ S.zf1)) fun q e hq he => ?_)
      replace hq : Heap.ExtBut i1 h₁ q := hq
      exact hE q tk0 e (fun c o cz cT c1 c2 x => hq _ _ c1 (hs₁.extBut _ _ cz x)) he
theorem wpAny_pyNext_zipN_item {Q : Option Value → Shared → Prop} (S : ZipSep2 z TI TO i1 i2 fp1 fp2) (D1 : Draws prog w A.in1 i1 fp1 n1 P1 St1) (D2 : Draws prog w A.in1 i2 fp2 n2 P2 St2)
    (hz : IsZipG s.heap z TI TO Fv f) (hF : OutF Fv) (hTI : IsTupOf2 s.heap TI (.ref i1) (.ref i2)) (hTO : IsTupOf2 s.heap TO a1 a2) (st1 : St1 i s.heap) (st2 : St2 i s.heap) (hlt1 : i < n1) (hlt2 : i < n2)
    (hQ : ∀ x1 x2 h' tk F' f', OutF F' → P1 i x1 → P2 i x2 → IsZipG h' z TI TO F' f' → (∃ b1 b2, IsTupOf2 h' TO b1 b2) → St1 (i + 1) h' → St2 (i + 1) h' → IsTupOf2 h' s.heap.objs.size x1 x2 → h'.objs.size = s.heap.objs.size + 1 →
      (∀ c o, c ≠ z → c ≠ TO → c ≠ i1 → c ≠ i2 → s.heap.get? c = some o → h'.get? c = some o) → Q (some (.ref s.heap.objs.size)) { s with heap := h', toks := tk }) :
    wpAny (model prog w) A (pyNext (.ref z)) Q E s := by
  have hT : s.TypeIs (.ref z) "zip" := ⟨_, hz, rfl⟩
  unfold pyNext
  exact wpAny_bind (wpAny_attempt (wpAny_callSpecial?_slot (name := Str.ofString "__next__") hT F.slot_zip_next
    (wpAny_call_entry F.slot_zip_next hT F.entry_zip_next
      (zipN_next_item S D1 D2 hz hF hTI hTO st1 st2 hlt1 hlt2 fun x1 x2 h' tk F' f' y0 y1 y2 b1 b2 d1 d2 b5 b6 b7 => wpAny_pure (hQ x1 x2 h' tk F' f' y0 y1 y2 b1 b2 d1 d2 b5 b6 b7)) (F.args_zip_next_1 _))))
theorem wpAny_pyNext_zipN_end {Q : Option Value → Shared → Prop} (S : ZipSep2 z TI TO i1 i2 fp1 fp2) (D1 : Draws prog w A.in1 i1 fp1 n1 P1 St1) (D2 : Draws prog w A.in1 i2 fp2 n2 P2 St2)
    (hz : IsZipG s.heap z TI TO Fv f) (hF : OutF Fv) (hTI : IsTupOf2 s.heap TI (.ref i1) (.ref i2)) (hTO : IsTupOf2 s.heap TO a1 a2) (st1 : St1 i s.heap) (st2 : St2 i s.heap) (hle1 : i ≤ n1) (hle2 : i ≤ n2) (hend : i = n1 ∨ i = n2)
    (hQ : ∀ h' tk, (∀ c o, c ≠ z → c ≠ TO → c ≠ i1 → c ≠ i2 → s.heap.get? c = some o → h'.get? c = some o) → Q none { s with heap := h', toks := tk }) : wpAny (model prog w) A (pyNext (.ref z)) Q E s := by
  have hT : s.TypeIs (.ref z) "zip" := ⟨_, hz, rfl⟩
  unfold pyNext
  refine wpAny_bind (wpAny_attempt (wpAny_callSpecial?_slot (name := Str.ofString "__next__") hT F.slot_zip_next
    (wpAny_call_entry F.slot_zip_next hT F.entry_zip_next (zipN_next_end S D1 D2 hz hF hTI hTO st1 st2 hle1 hle2 hend fun h' tk e hk he => ?_) (F.args_zip_next_1 _))))
  obtain ⟨o, ho, hc⟩ := he
  refine wpAny_bind (wpAny_isInstance (T := "StopIteration") (b := true) ⟨o, ho, hc⟩ isSubtype_stop ?_)
  exact wpAny_pure (hQ _ _ hk)
theorem pyIter_zipG {Q : Value → Shared → Prop} (hz : IsZipG s.heap z TI TO Fv f) (h : Q (.ref z) s) : wpAny (model prog w) A (pyIter (.ref z)) Q E s := by
  have hT : s.TypeIs (.ref z) "zip" := ⟨_, hz, rfl⟩
  refine wpAny_pyIter_slot hT F.slot_zip_iter (wpAny_call_entry F.slot_zip_iter hT F.entry_zip_iter ?_ (F.args_zip_iter_1 _))
  show wpAny _ _ (ret (.ref z)) _ _ s
  exact wpAny_pure ⟨_, rfl, "zip", _, hT, F.slot_zip_next.lookup, h⟩
end
end MVY
namespace MV
open PySem L2 PySem.Spec PyProof.Rows MVY
theorem turn_z2N {P : Program} {w : World} {K : PySem.W.Frag} {x : Str} {tpos : Pos} (K1 K2 : SK) (xs ys : List V) (n : Nat) :
    Turn P w K (.Name x tpos) (Itz2 K1 K2 xs ys) [n + 4, n + 2, n + 3, n, n + 1] (n + 4) (fun i h => (∃ F f, OutF F ∧ IsZipG h (n + 4) (n + 2) (n + 3) F f) ∧ IsTupOf2 h (n + 2) (.ref n) (.ref (n + 1)) ∧ (∃ x y, IsTupOf2 h (n + 3) x y) ∧ K1.st h n i ∧ K2.st h (n + 1) i) where
  mem := by simp
  obj := fun i h st c hc => by
    obtain ⟨⟨F, f, _, hz⟩, hTI, ⟨x, y, hTO⟩, h1, h2⟩ := st
    have e' : c = n + 4 ∨ c = n + 2 ∨ c = n + 3 ∨ c = n ∨ c = n + 1 := by simpa using hc
    rcases e' with q | q | q | q | q
    · rw [q]; exact ⟨_, hz, fun v q => nomatch q⟩
    · rw [q]; exact ⟨_, hTI, fun v q => nomatch q⟩
    · rw [q]; exact ⟨_, hTO, fun v q => nomatch q⟩
    · rw [q]; exact SK.obj h1
    · rw [q]; exact SK.obj h2
  keep := fun i h h' st k => by
    obtain ⟨⟨F, f, hF, hz⟩, hTI, ⟨x, y, hTO⟩, h1, h2⟩ := st
    exact ⟨⟨F, f, hF, k _ (by simp) _ hz⟩, k _ (by simp) _ hTI, ⟨x, y, k _ (by simp) _ hTO⟩, SK.keep (fun o q => k n (by simp) o q) h1, SK.keep (fun o q => k (n + 1) (by simp) o q) h2⟩
  item := by
    intro X hP hw hK hc i pins s σ H E I hf st hg
    subst hP hw hK
    obtain ⟨⟨F, f, hF, hz⟩, hTI, ⟨x0, y0, hTO⟩, h1, h2⟩ := st
    obtain ⟨a1, a2, l1, l2⟩ := hg
    have hn : ∀ b ∈ [n + 4, n + 2, n + 3, n, n + 1], H b = none := fun b hb => (hf b hb).1
    obtain ⟨fp1, P1, St1, D1, s1, m1, f1, v1, k1⟩ := SK.draws I (hn n (by simp)) a1 h1
    obtain ⟨fp2, P2, St2, D2, s2, m2, f2, v2, k2⟩ := SK.draws I (hn (n + 1) (by simp)) a2 h2
    have hh := I.ok.hd hc
    have far1 : ∀ b ∈ [n + 4, n + 2, n + 3, n, n + 1], b ≠ n → b ∉ fp1 := fun b hb hne z => by
      rcases f1 b z with q | q
      · exact hne q
      · exact q (hn b hb)
    have far2 : ∀ b ∈ [n + 4, n + 2, n + 3, n, n + 1], b ≠ n + 1 → b ∉ fp2 := fun b hb hne z => by
      rcases f2 b z with q | q
      · exact hne q
      · exact q (hn b hb)
    have S : ZipSep2 (n + 4) (n + 2) (n + 3) n (n + 1) fp1 fp2 :=
      ⟨nq (by omega), nq (by omega), nq (by omega), nq (by omega), m1, far1 _ (by simp) (nq (by omega)), far1 _ (by simp) (nq (by omega)), nq (by omega), m2, far2 _ (by simp) (nq (by omega)), far2 _ (by simp) (nq (by omega)), far2 _ (by simp) (nq (by omega)), far1 _ (by simp) (nq (by omega))⟩
    have hzl : n + 4 < s.heap.objs.size := Heap.lt_size hz
    refine wpAny_pyNext_zipN_item S (D1 _ hh) (D2 _ hh) hz hF hTI hTO s1 s2 l1 l2 fun x1 x2 h' tk F' f' hF' y1 y2 z' TO' h1' h2' hT hsz hk => ?_
    obtain ⟨x, hx, ru⟩ := v1 i x1 y1
    obtain ⟨y, hy, ru2⟩ := v2 i x2 y2
    refine ⟨_, rfl, ?_⟩
    show wpAny _ _ (pure ()) _ _ _
    refine wpAny_pure ?_
    have hT2 : h'.get? s.heap.objs.size = some { cls := .type "tuple", data := .seq #[x1, x2] } := hT
    have new : ObjOk X.prog X.w (upd H s.heap.objs.size (.tup [x, y])) h' s.heap.objs.size (.tup [x, y]) :=
      ⟨by show 2 ≤ sizeLine; decide, [x1, x2], .cons ru (.cons ru2 .nil), ⟨_, hT2, rfl, _, rfl⟩⟩
    have I1 : Inv X pins σ (upd H s.heap.objs.size (.tup [x, y])) { s with heap := h', toks := tk } :=
      I.turnedNew (t' := tk) (ch := [n + 4, n + 2, n + 3, n, n + 1]) (fun c o hb q => hk c o (fun q' => hb (by simp [q'])) (fun q' => hb (by simp [q'])) (fun q' => hb (by simp [q'])) (fun q' => hb (by simp [q'])) q) hf (Nat.le_refl _) new
    refine ⟨.ref s.heap.objs.size, _, I1, rfl, ⟨_, x, y, rfl, I.hok.fresh (Nat.le_refl _), rfl, hx, hy⟩, ⟨⟨_, _, hF', z'⟩, ?_, ?_, ?_, ?_⟩, fun c hcm => ?_⟩
    · exact hk _ _ (nq (by omega)) (nq (by omega)) (nq (by omega)) (nq (by omega)) hTI
    · exact TO'
    · exact k1 _ _ h1'
    · exact k2 _ _ h2'
    · have hlt : c < s.heap.objs.size := by
        have e' : c = n + 4 ∨ c = n + 2 ∨ c = n + 3 ∨ c = n ∨ c = n + 1 := by simpa using hcm
        refine Nat.lt_of_le_of_lt ?_ hzl
        rcases e' with q | q | q | q | q <;> rw [q] <;> (show (_ : Nat) ≤ _; omega)
      rw [upd_ne (Nat.ne_of_lt hlt)]
      exact hn c hcm
  done := by
    intro X hP hw hK hc i pins s σ H E I hf st hg
    subst hP hw hK
    obtain ⟨⟨F, f, hF, hz⟩, hTI, ⟨x0, y0, hTO⟩, h1, h2⟩ := st
    obtain ⟨a1, a2, hend⟩ := hg
    have hn : ∀ b ∈ [n + 4, n + 2, n + 3, n, n + 1], H b = none := fun b hb => (hf b hb).1
    obtain ⟨fp1, P1, St1, D1, s1, m1, f1, v1, k1⟩ := SK.draws I (hn n (by simp)) a1 h1
    obtain ⟨fp2, P2, St2, D2, s2, m2, f2, v2, k2⟩ := SK.draws I (hn (n + 1) (by simp)) a2 h2
    have hh := I.ok.hd hc
    have far1 : ∀ b ∈ [n + 4, n + 2, n + 3, n, n + 1], b ≠ n → b ∉ fp1 := fun b hb hne z => by
      rcases f1 b z with q | q
      · exact hne q
      · exact q (hn b hb)
    have far2 : ∀ b ∈ [n + 4, n + 2, n + 3, n, n + 1], b ≠ n + 1 → b ∉ fp2 := fun b hb hne z => by
      rcases f2 b z with q | q
      · exact hne q
      · exact q (hn b hb)
    have S : ZipSep2 (n + 4) (n + 2) (n + 3) n (n + 1) fp1 fp2 :=
      ⟨nq (by omega), nq (by omega), nq (by omega), nq (by omega), m1, far1 _ (by simp) (nq (by omega)), far1 _ (by simp) (nq (by omega)), nq (by omega), m2, far2 _ (by simp) (nq (by omega)), far2 _ (by simp) (nq (by omega)), far2 _ (by simp) (nq (by omega)), far1 _ (by simp) (nq (by omega))⟩
    exact wpAny_pyNext_zipN_end S (D1 _ hh) (D2 _ hh) hz hF hTI hTO s1 s2 (by omega) (by omega) (by omega) fun h' tk hk => ⟨rfl, I.turnedL (t' := tk) (ch := [n + 4, n + 2, n + 3, n, n + 1]) (fun c o hb q =>
      hk c o (fun q' => hb (by simp [q'])) (fun q' => hb (by simp [q'])) (fun q' => hb (by simp [q'])) (fun q' => hb (by simp [q'])) q) hf⟩
  self := fun A i s Q E st h => by
    obtain ⟨⟨F, f, hF, hz⟩, _⟩ := st
    exact pyIter_zipG hz h
theorem pi_z2N {X : Cx} {e e2 : Expr} {ta : TA} {p pos tpos : Pos} {x : Str} (hg : Gl X "zip") (hm : X.mg "zip" = none) (ha : PA X [e, e2] ta)
    (hs : starEach [e, e2] X.env = (false, eval e X.env) :: starEach [e2] X.env := by rfl) (hpl : (backTo pos (starEach [e2] X.env)).any (·.1) = false := by rfl) :
    PI X (.Name x tpos) (.Call (.Name "zip" p) [e, e2] [] pos) (iZ2 ta) := by
  refine ⟨fun pins s σ H R I h => ?_⟩
  refine Call_ (ld_blt I hg hm PyProof.Rows.boot_zip (PyProof.Rows.callWith_type1 (thn (ha.run pos pins s σ H _ I h) fun us s1 ⟨vs, H1, I1, r1, q1⟩ => ?_) hs hpl))
  obtain ⟨K1, K2, xs, ys, ex, a1, a2, q⟩ := q1
  subst ex
  cases r1 with
  | cons r rr =>
    cases rr with
    | cons r' rr =>
      cases rr
      obtain ⟨o1, B1, b1, c1, d1⟩ := SK.begins I1 a1 r
      obtain ⟨o2, B2, b2, c2, d2⟩ := SK.begins I1 a2 r'
      refine zip_begins2 b1 b2 c1 c2 fun h' hz hTI hTO h1 h2 hsz hk => wpAny_pyIter_zip hz ?_
      have I2 : Inv X pins σ H1 { s1 with heap := h' } := I1.kept (t' := s1.toks) hk
      refine ⟨s1.heap.objs.size + 4, [s1.heap.objs.size + 4, s1.heap.objs.size + 2, s1.heap.objs.size + 3, s1.heap.objs.size, s1.heap.objs.size + 1], _, _, H1, rfl, I2, turn_z2N K1 K2 xs ys s1.heap.objs.size, ⟨⟨_, _, .inl rfl, hz⟩, hTI, ⟨_, _, hTO⟩, d1 _ _ h1, d2 _ _ h2⟩, fun c hcm => ?_, q⟩
      have e' : c = s1.heap.objs.size + 4 ∨ c = s1.heap.objs.size + 2 ∨ c = s1.heap.objs.size + 3 ∨ c = s1.heap.objs.size ∨ c = s1.heap.objs.size + 1 := by simpa using hcm
      have hle : s1.heap.objs.size ≤ c := by rcases e' with q | q | q | q | q <;> rw [q] <;> (show (_ : Nat) ≤ _; omega)
      exact I1.fpOk hle (I1.hok.fresh hle)
section
variable {X : Cx} {W : WX} {B Ω : List Nat} {a b c : Expr} {gs : Env → R (List D)} {pos p : Pos}
theorem pis_z2N {x : Str} {tpos : Pos} (hg : Gl X "zip") (hm : X.mg "zip" = none) (ha : PAf X W B Ω [a, b] gs)
    (hs : starEach [a, b] X.env = (false, eval a X.env) :: starEach [b] X.env := by rfl) (hpl : (backTo pos (starEach [b] X.env)).any (·.1) = false := by rfl) : PIs X W B Ω (.Name x tpos) (.Call (.Name "zip" p) [a, b] [] pos) (xZip zipD2 gs) :=
  PI.imp (pi_z2N hg hm ha hs hpl) fun σ H Q ⟨H0, O0, O, ρ, S, h⟩ => ⟨H0, O0, O, ρ, S, Good.bind (f := zipD2) h fun ds vs H1 e s1 r1 h1 => by
    clear e
    unfold zipD2 at h1
    split at h1
    · rename_i x y
      cases ex : seqD x with
      | stuck => rw [ex] at h1; exact h1.elim
      | exc n => exact absurd ex (seqD_nx _ _)
      | ok xs =>
      cases ey : seqD y with
      | stuck => rw [ex, ey] at h1; exact h1.elim
      | exc n => exact absurd ey (seqD_nx _ _)
      | ok ys =>
      rw [ex, ey] at h1
      cases r1 with
      | cons r1 r2 =>
        cases r2 with
        | cons r2 r3 =>
          cases r3
          obtain ⟨k1, us, rfl, a1, b1⟩ := src_of r1 ex
          obtain ⟨k2, ws, rfl, a2, b2⟩ := src_of r2 ey
          refine ⟨k1, k2, us, ws, rfl, a1 _ _ Step.refl, a2 _ _ Step.refl, h1.use fun O' H' _ st ht => ?_⟩
          refine ⟨fun i d ed => ?_, a1 _ _ st, a2 _ _ st, by rw [List.length_map, List.length_zip, b1.length, b2.length]⟩
          obtain ⟨x', y', ex', ey', rfl⟩ := zip_get ed
          obtain ⟨v, ev, rv⟩ := b1.get ex'
          obtain ⟨u, eu, ru⟩ := b2.get ey'
          refine ⟨⟨a1 _ _ st, a2 _ _ st, (List.getElem?_eq_some_iff.mp ev).1, (List.getElem?_eq_some_iff.mp eu).1⟩, fun z H2 ⟨T, v', u', e1, e2, e3, e4, e5⟩ => ?_⟩
          rw [ev] at e4; cases e4
          rw [eu] at e5; cases e5
          subst e1 e3
          exact ⟨same_upd e2, new_tup ht e2 (.cons (rv.step st) (.cons (ru.step st) .nil))⟩
    · exact h1.elim⟩
end
end MV

set_option Elab.async false
set_option linter.all false
set_option maxRecDepth 100000
set_option maxHeartbeats 4000000
namespace MV
open PySem L2
section
variable {ρ : Env} {g ga gb gk gv : Env → R D} {i : Nat} {f f' : YF}
@[simp] theorem xGet1_e : xGet1 ga gk ρ = (ga ρ).bind fun x => match x with | .dict kvs => if isOb kvs = true then .stuck else (gk ρ).bind fun k => get2K kvs k .none | _ => .stuck := by unfold xGet1; rfl
@[simp] theorem xGet2_e : xGet2 ga gk gv ρ = (ga ρ).bind fun x => match x with | .dict kvs => if isOb kvs = true then .stuck else (gk ρ).bind fun k => (gv ρ).bind fun v => get2K kvs k v | _ => .stuck := by unfold xGet2; rfl
@[simp] theorem yDPut_e : yDPut i gk gv ρ = yB (gv ρ) ρ fun v => match ρ[i]? with
  | some (some (.dict kvs)) => yB (gk ρ) ρ fun k => if dKind kvs k = true ∧ kvs.length < sizeLine then .next (ρ.set i (some (.dict (dPut kvs k v)))) else .stuck
  | _ => .stuck := (rfl)
@[simp] theorem zSetd_e : zSetd i gk gv ρ = match ρ[i]? with
  | some (some (.dict kvs)) => (zP (gk ρ) ρ).bind fun k _ => (zP (gv ρ) ρ).bind fun v _ => if dKind kvs k = true ∧ kvs.length < sizeLine then (match dGet kvs k with
    | some d => .ok d ρ
    | none => .ok v (ρ.set i (some (.dict (dPut kvs k v))))) else .stuck
  | _ => .stuck := (rfl)
@[simp] theorem yzSet_e {g : Env → RZ D} : yzSet i g ρ = match g ρ with | .ok d ρ' => .next (ρ'.set i (some d)) | .exc n ρ' => .exc n ρ' | .stuck => .stuck := (rfl)
@[simp] theorem yzEx_e {g : Env → RZ D} : yzEx g ρ = match g ρ with | .ok d ρ' => .next ρ' | .exc n ρ' => .exc n ρ' | .stuck => .stuck := (rfl)
@[simp] theorem yzIf_e {g : Env → RZ Bool} : yzIf g f f' ρ = match g ρ with | .ok c ρ' => if c = true then f ρ' else f' ρ' | .exc n ρ' => .exc n ρ' | .stuck => .stuck := (rfl)
@[simp] theorem zCmp_e {h : D → D → R D} {g : Env → RZ D} : zCmp h g gb ρ = (g ρ).bind fun x ρ' => (zP (gb ρ') ρ').bind fun y _ => zP ((h x y).bind asB) ρ' := (rfl)
@[simp] theorem yMut0_e {h : List D → List D} : yMut0 i h ρ = match ρ[i]? with | some (some (.list ds)) => .next (ρ.set i (some (.list (h ds)))) | _ => .stuck := (rfl)
@[simp] theorem zPop_e : zPop i ρ = match ρ[i]? with | some (some (.list ds)) => (match ds[ds.length - 1]? with | some d => .ok d (ρ.set i (some (.list ds.dropLast))) | none => .stuck) | _ => .stuck := (rfl)
@[simp] theorem yExt_e : yExt i g ρ = match ρ[i]? with
  | some (some (.list ds)) => yB (g ρ) ρ fun d => match d with
    | .list es => if ds.length + es.length ≤ sizeLine then .next (ρ.set i (some (.list (ds ++ es)))) else .stuck
    | _ => .stuck
  | _ => .stuck := (rfl)
@[simp] theorem yIns_e : yIns i gk gv ρ = match ρ[i]? with
  | some (some (.list ds)) => yB (gk ρ) ρ fun n => match n with
    | .int n => yB (gv ρ) ρ fun d => if ds.length < sizeLine ∧ 0 ≤ n ∧ n < 2 ^ 63 then .next (ρ.set i (some (.list (insL ds n d)))) else .stuck
    | _ => .stuck
  | _ => .stuck := (rfl)
@[simp] theorem zipD2_ll {xs ys : List D} : zipD2 [.list xs, .list ys] = .ok ((xs.zip ys).map fun p => .tuple [p.1, p.2]) := (rfl)
@[simp] theorem zipD2_tt {xs ys : List D} : zipD2 [.tuple xs, .tuple ys] = .ok ((xs.zip ys).map fun p => .tuple [p.1, p.2]) := (rfl)
@[simp] theorem zipD2_lt {xs ys : List D} : zipD2 [.list xs, .tuple ys] = .ok ((xs.zip ys).map fun p => .tuple [p.1, p.2]) := (rfl)
@[simp] theorem zipD3_ltt {xs ys zs : List D} : zipD3 [.list xs, .tuple ys, .tuple zs] = .ok (((xs.zip ys).zip zs).map fun p => .tuple [p.1.1, p.1.2, p.2]) := (rfl)
@[simp] theorem enumD_l {xs : List D} : enumD [.list xs] = .ok (xs.zipIdx.map fun p => .tuple [.int (p.2 : Nat), p.1]) := (rfl)
theorem enumD_t {xs : List D} : enumD [.tuple xs] = .ok (xs.zipIdx.map fun p => .tuple [.int (p.2 : Nat), p.1]) := (rfl)
theorem lenF_d {kvs : List (D × D)} (no : isOb kvs = false) : lenF [.dict kvs] = .ok (.int kvs.length) := by
  show okIf (!isOb kvs) _ = _
  rw [no]; rfl
theorem dk_noB {kvs : List (D × D)} {k : D} (h : dKind kvs k = true) : (isOb kvs = true) = False := by rw [dk_noOb h]; simp

theorem get2K_ok {kvs : List (D × D)} {k x : D} (h : dKind kvs k = true) : get2K kvs k x = .ok ((dGet kvs k).getD x) := by simp only [get2K, h]; rfl
theorem inD_d {kvs : List (D × D)} {k : D} (h : dKind kvs k = true) : inD k (.dict kvs) = .ok (.bool (dGet kvs k).isSome) := by
  have : inD k (.dict kvs) = okIf (dKind kvs k) (.bool (dGet kvs k).isSome) := by cases k <;> rfl
  rw [this, h]; rfl
theorem notInD_d {kvs : List (D × D)} {k : D} (h : dKind kvs k = true) : notInD k (.dict kvs) = .ok (.bool (!(dGet kvs k).isSome)) := by
  have : notInD k (.dict kvs) = okIf (dKind kvs k) (.bool (!(dGet kvs k).isSome)) := by cases k <;> rfl
  rw [this, h]; rfl
theorem ixD_d {kvs : List (D × D)} {k d : D} (h : dKind kvs k = true) (e : dGet kvs k = some d) : ixD (.dict kvs) k = .ok d := by
  have : ixD (.dict kvs) k = if dKind kvs k = true then (match dGet kvs k with | some d => .ok d | none => .stuck) else .stuck := by cases k <;> rfl
  rw [this, if_pos h, e]
/-! ### dicts told by lists of pairs -/
def lk {κ α : Type} [DecidableEq κ] (ps : List (κ × α)) (k : κ) : Option α := (ps.find? fun p => decide (p.1 = k)).map (·.2)
def pt {κ α : Type} [DecidableEq κ] (ps : List (κ × α)) (k : κ) (v : α) : List (κ × α) := if (ps.any fun p => decide (p.1 = k)) = true then ps.map (fun p => if p.1 = k then (p.1, v) else p) else ps ++ [(k, v)]
section
variable {κ α : Type} [DecidableEq κ] {ek : κ → D} {ev : α → D}
def encP (ek : κ → D) (ev : α → D) (ps : List (κ × α)) : List (D × D) := ps.map fun p => (ek p.1, ev p.2)
theorem dGet_enc (hi : ∀ a b, keyN (ek a) = keyN (ek b) ↔ a = b) (ps : List (κ × α)) (k : κ) : dGet (encP ek ev ps) (ek k) = (lk ps k).map ev := by
  induction ps with
  | nil => rfl
  | cons p ps ih =>
    by_cases h : p.1 = k
    · simp [dGet, lk, encP, List.find?_cons, h]
    · have h2 : ¬ keyN (ek p.1) = keyN (ek k) := fun z => h ((hi _ _).mp z)
      simpa [dGet, lk, encP, List.find?_cons, h, h2] using ih
theorem dPut_enc (hi : ∀ a b, keyN (ek a) = keyN (ek b) ↔ a = b) (ps : List (κ × α)) (k : κ) (v : α) : dPut (encP ek ev ps) (ek k) (ev v) = encP ek ev (pt ps k v) := by
  have e1 : ((encP ek ev ps).any fun q => decide (keyN q.1 = keyN (ek k))) = ps.any fun p => decide (p.1 = k) := by
    simp only [encP, List.any_map]
    congr 1; funext p
    exact decide_eq_decide.mpr (hi _ _)
  unfold dPut pt
  rw [e1]
  split
  · simp only [encP, List.map_map]
    refine List.map_congr_left fun p _ => ?_
    simp only [Function.comp]
    by_cases h : p.1 = k
    · simp [h]
    · have h2 : ¬ keyN (ek p.1) = keyN (ek k) := fun z => h ((hi _ _).mp z)
      simp [h, h2]
  · simp [encP]
theorem lk_pt (ps : List (κ × α)) (k j : κ) (v : α) : lk (pt ps k v) j = if j = k then some v else lk ps j := by
  unfold pt
  split
  · rename_i h
    induction ps with
    | nil => simp at h
    | cons p ps ih =>
      by_cases hp : p.1 = k
      · by_cases hj : j = k
        · subst hj; simp [lk, List.find?_cons, hp]
        · have h1 : ¬ p.1 = j := fun z => hj (z.symm.trans hp)
          have h2 : ¬ k = j := fun z => hj z.symm
          simp only [lk, List.map_cons, List.find?_cons, hp, if_true, h2, decide_false, h1, hj, if_false]
          clear ih h
          induction ps with
          | nil => rfl
          | cons q qs ih =>
            by_cases hq : q.1 = k
            · have h3 : ¬ q.1 = j := fun z => hj (z.symm.trans hq)
              simpa [List.find?_cons, hq, h2, h3] using ih
            · by_cases h3 : q.1 = j
              · simp [List.find?_cons, hq, h3, hj]
              · simpa [List.find?_cons, hq, h3] using ih
      · have h' : (ps.any fun p => decide (p.1 = k)) = true := by simpa [hp] using h
        have ih := ih h'
        by_cases h3 : p.1 = j
        · have : ¬ j = k := fun z => hp (h3.trans z)
          simp [lk, List.find?_cons, hp, h3, this]
        · simpa [lk, List.find?_cons, hp, h3] using ih
  · rename_i h
    have hn : lk ps k = none := by
      cases q : lk ps k with
      | none => rfl
      | some x =>
        exfalso; apply h
        unfold lk at q
        obtain ⟨p, hp, _⟩ := Option.map_eq_some_iff.mp q
        exact List.any_eq_true.mpr ⟨p, List.mem_of_find?_eq_some hp, List.find?_some (p := fun p : κ × α => decide (p.1 = k)) hp⟩
    unfold lk at *
    rw [List.find?_append]
    by_cases hj : j = k
    · subst hj
      have : (ps.find? fun p => decide (p.1 = j)) = none := by simpa using hn
      simp [this]
    · have h2 : ¬ k = j := fun z => hj z.symm
      simp [h2, hj]
theorem pt_new {ps : List (κ × α)} {k : κ} {v : α} (h : lk ps k = none) : pt ps k v = ps ++ [(k, v)] := by
  have : (ps.any fun p => decide (p.1 = k)) = false := by
    rw [Bool.eq_false_iff]
    intro q
    obtain ⟨p, hp, e⟩ := List.any_eq_true.mp q
    have : (ps.find? fun p => decide (p.1 = k)).isSome := List.find?_isSome.mpr ⟨p, hp, e⟩
    unfold lk at h
    rw [Option.map_eq_none_iff] at h
    rw [h] at this; cases this
  rw [pt, this]; rfl
theorem pt_len (ps : List (κ × α)) (k : κ) (v : α) : (pt ps k v).length ≤ ps.length + 1 := by
  unfold pt; split <;> simp
theorem dKind_leaf {ps : List (κ × α)} {k : D} (h : ∀ a, leafy (ek a) = true) (hk : leafy k = true) : dKind (encP ek ev ps) k = true := by
  have : (encP ek ev ps).all (fun q => leafy q.1) = true := by simp [encP, h]
  simp only [dKind, hk, this, Bool.and_self, Bool.true_or]
theorem dKind_tup {ps : List (κ × α)} {k : D} (h : ∀ a, isTupD (ek a) = true) (hk : isTupD k = true) (hk2 : kyb 8 k = true) : dKind (encP ek ev ps) k = true := by
  have : (encP ek ev ps).all (fun q => isTupD q.1) = true := by simp [encP, h]
  simp only [dKind, hk, hk2, this, Bool.and_self, Bool.or_true]
end
end
end MV

set_option Elab.async false
set_option linter.all false
set_option maxRecDepth 100000
set_option maxHeartbeats 4000000
namespace MV
open PySem L2
section
variable {X : Cx} {W : WX} {B Ω Ω' Ωl : List Nat} {fr : Bool} {k : Nat} {st : Stmt} {o e a : Expr} {ga gb : Env → R D} {pos p apos : Pos}
/-- a statement of which nothing is told -/
def yStuck : YF := fun _ => .stuck
theorem py_stuck : PY X W fr B Ωl Ω Ω' st yStuck := ⟨fun pins s σ H Dn I ⟨_, _, _, _, _, h⟩ => h.elim⟩
/-! ### int(text) -/
def intTF : List D → R D
  | [.int i] => .ok (.int i)
  | [.bool b] => .ok (.int (if b = true then 1 else 0))
  | [.str z] => match PySem.intText? z with
    | some n => if z.length ≤ 640 then .ok (.int n) else .stuck
    | none => .stuck
  | _ => .stuck
theorem nox_intT : NoXl intTF := by intro ds n; unfold intTF; split <;> (try split) <;> (try split) <;> simp
abbrev rIntT : List V → Hp → VK → Prop := fun xs H Q => ((∃ i, xs = [.int i] ∧ Q (.int i) H) ∨ ∃ k, xs = [.bl k] ∧ Q (.int (if k then 1 else 0)) H) ∨ ∃ a n, xs = [.str a] ∧ PySem.intText? a = some n ∧ a.length ≤ 640 ∧ Q (.int n) H
theorem cr_intT : CallR X (.type "int") rIntT := CallR.or call_int1 call_int_str
theorem rc_intT : RCB X rIntT intTF [true] := by
  intro O H vs ds d Q ht h e q
  obtain ⟨v, d', rfl, rfl, r⟩ := rpk1 h
  cases d' <;> simp only [intTF] at e <;> try cases e
  · obtain rfl := r.bool
    exact .inl (.inr ⟨_, rfl, q _ H Same.refl (.int _)⟩)
  · obtain rfl := r.int
    exact .inl (.inl ⟨_, rfl, q _ H Same.refl (.int _)⟩)
  · obtain ⟨rfl, h1⟩ := r.str
    split at e
    · rename_i n hn
      split at e
      · rename_i hl
        cases e
        exact .inr ⟨_, n, rfl, hn, hl, q _ H Same.refl (.int _)⟩
      · cases e
    · cases e
/-! ### split, partition -/
def splitS (a : Str) : D → R D
  | .str b => okIf (decide ((b.length == 0) = false) && decide (a.length + 2 ≤ sizeLine) && (Txt.split a b).all PyData.strOk) (.list ((Txt.split a b).map .str))
  | _ => .stuck
theorem rps_of {K : Fr} {O : List Addr} {H : Hp} : ∀ {zs : List Str}, (∀ z ∈ zs, PyData.strOk z = true) → RpAll K O H (zs.map V.str) (zs.map .str)
  | [], _ => .nil
  | z :: zs, h => .cons (.str _ (h z List.mem_cons_self)) (rps_of fun y hy => h y (List.mem_cons_of_mem _ hy))
theorem m1_runO {r : V → List V → Hp → VK → Prop} {f : Str → D → R D} (hn : ∀ z y n, f z y ≠ .exc n) (hr : ∀ (O : List Addr) (H : Hp) (z : Str) (u : V) (y d : D) (Q : VK), (∀ a ∈ O, H a ≠ none) → PyData.strOk z = true → Rs X.fr O H H u y → f z y = .ok d → (∀ p H', Same H H' → H p = none → OwnAt X.fr (p :: O) H' p d → Q (.ref p) H') → r (.str z) [u] H Q)
    {σ : St} {H : Hp} {Q : VK} (h : tO X.fr X.mg W B Ω (xM1 f ga gb) σ H Q) : tM1 r (tX X.fr X.mg W B Ω ga) (tB X.fr X.mg W B Ω gb) σ H Q := by
  obtain ⟨H0, O0, O, ρ, S, h⟩ := h
  refine ⟨H0, O0, O, ρ, S, Good.bind h fun d v H1 e1 s1 r1 h1 => ?_⟩
  cases d <;> first | exact h1.elim | skip
  cases r1 with
  | str _ hz =>
    refine ⟨⟨_, rfl⟩, H0, O0, O, ρ, S.same s1, Good.bind h1 fun y u H2 e2 s2 r2 h2 => ?_⟩
    obtain ⟨w, ew⟩ := h2.ok_of (hn _ _)
    rw [ew] at h2
    exact hr O H2 _ u y w Q ((S.same s1).same s2).trk hz r2 ew fun p H' s3 hp hown => h2 _ _ s3 (.inr ⟨p, rfl, free_back (Same.tr s1 s2) hp, hown⟩)
theorem po_split (ho : PX X W B Ω o ga) (he : PB X W B Ω e gb) (hs : starEach [e] X.env = [(false, eval e X.env)] := by rfl) (hbase : attributeBase o "split" X.env (eval o X.env) = eval o X.env := by rfl) (hline : (apos.endLine == pos.line) = true := by rfl) :
    PO X W B Ω (.Call (.Attribute o "split" apos) [e] [] pos) (xM1 splitS ga gb) :=
  PE.imp (pe_split ho he hs hbase hline) fun σ H Q h => m1_runO (f := splitS) (fun z y n => by cases y <;> simp only [splitS] <;> (try unfold okIf) <;> (try split) <;> simp) (fun O H z u y d Q ht hz hy e q => by
    cases y <;> simp only [splitS] at e <;> try cases e
    obtain ⟨c, rfl⟩ := okIf_ok e
    simp only [Bool.and_eq_true, decide_eq_true_eq, List.all_eq_true] at c
    obtain ⟨rfl, _⟩ := hy.str
    refine ⟨_, _, rfl, rfl, c.1.1, c.1.2, fun p hp => q p _ (same_upd hp) hp (new_own hp (rps_of c.2))⟩) h
def partS (a : Str) : D → R D
  | .str b => okIf (decide ((b.length == 0) = false) && decide (a.length ≤ sizeLine) && [(Txt.partition a b).1, (Txt.partition a b).2.1, (Txt.partition a b).2.2].all PyData.strOk) (.tuple [.str (Txt.partition a b).1, .str (Txt.partition a b).2.1, .str (Txt.partition a b).2.2])
  | _ => .stuck
theorem px_part (ho : PX X W B Ω o ga) (he : PB X W B Ω e gb) (hs : starEach [e] X.env = [(false, eval e X.env)] := by rfl) (hbase : attributeBase o "partition" X.env (eval o X.env) = eval o X.env := by rfl) (hline : (apos.endLine == pos.line) = true := by rfl) :
    PX X W B Ω (.Call (.Attribute o "partition" apos) [e] [] pos) (xM1 partS ga gb) :=
  PE.imp (pe_partition ho he hs hbase hline) fun σ H Q h => m1_run (f := partS) (fun z y n => by cases y <;> simp only [partS] <;> (try unfold okIf) <;> (try split) <;> simp) (fun O H z u y d Q ht hz hy e q => by
    cases y <;> simp only [partS] at e <;> try cases e
    obtain ⟨c, rfl⟩ := okIf_ok e
    simp only [Bool.and_eq_true, decide_eq_true_eq, List.all_eq_true] at c
    obtain ⟨rfl, _⟩ := hy.str
    refine ⟨_, _, rfl, rfl, c.1.1, c.1.2, fun p hp => q _ _ (same_upd hp) (new_tup ht hp (rps_of (zs := [(Txt.partition z _).1, (Txt.partition z _).2.1, (Txt.partition z _).2.2]) c.2))⟩) h
end
@[simp] theorem intTF_i {i : Int} : intTF [.int i] = .ok (.int i) := (rfl)
end MV

set_option Elab.async false
set_option linter.all false
set_option maxRecDepth 100000
set_option maxHeartbeats 4000000
namespace MV
open PySem L2
section
variable {X : Cx} {W : WX} {B Ω Ω' Ωl : List Nat} {fr : Bool} {k : Nat} {e : Expr} {pos p p2 apos : Pos}
/-! ### raise -/
/-- what the text's own class of exceptions n says -/
structure ErrC (K : PySem.W.Frag) (mg : Str → Option Value) (n : Str) (C : Addr) : Prop where
  gC : mg n = some (.ref C)
  xC : PySem.W.excIn K C [.type "ValueError", .type "Exception", .type "BaseException", .type "object"] "ValueError.__new__" = true
  kC : PySem.W.keepIn K (.ref C) = true
  bC : PySem.W.subIn K (.ref C) (.type "BaseException") = some true
  tC : PySem.W.typeIn K (.ref C) = some (.type "type")
/-- raise n('..') -/
def yRaise (n : Str) : YF := fun ρ => .exc n ρ
theorem py_raise {n m : Str} {C : Addr} {j : Nat} (G : Gd X W k) (hB : noB B Ω = true) (T : ErrC X.K X.mg n C) (hg : Gl X n) (hdb : (n == ("__debug__" : Str)) = false := by decide) :
    PY X W fr B Ωl Ω Ω' (.Raise (some (.Call (.Name n p) [.Constant (.str m) j p2] [] pos)) none apos) (yRaise n) :=
  PS.imp (L2N.ps_raise G.hc G.tk (L2N.pmk_own PySem.F.excBase_ValueError T.xC T.gC T.kC (raises_own T.bC T.tC) hg hdb)) fun Dn σ H ⟨H0, O0, O, ρ, S, h⟩ => by
    obtain ⟨O', s', S'⟩ := S.giveAll (noB_of hB)
    exact h C σ O' H T.gC s' S'
/-! ### try: body / except c as n: suite -/
/-- behind the suite: the exception's name is none again; a suite from which another exception leaves is not told of -/
def offS (i : Nat) : Out → Out
  | .next ρ => .next (ρ.set i none)
  | .brk ρ => .brk (ρ.set i none)
  | .cnt ρ => .cnt (ρ.set i none)
  | .ret d => .ret d
  | .exc _ _ => .stuck
  | .stuck => .stuck
def yTry (i : Nat) (ns : List Str) (body : YF) (suite : Str → YF) : YF := fun ρ => match body ρ with
  | .exc n ρ' => if ns.contains n = true then offS i (suite n (ρ'.set i none)) else .stuck
  | o => o
/-- the suite's wish -/
def tSuite (X : Cx) (fr : Bool) (B Ωl Ω' : List Nat) (i : Nat) (ns : List Str) (suite : Str → YF) : Addr → Value → Option Addr → TS := fun a cls d Dn σ H =>
  (∃ σ0, σ = List.set σ0 i (some (.ref a))) ∧ ∃ n C, ns.contains n = true ∧ X.mg n = some (.ref C) ∧ cls = .ref C ∧ d = none ∧ tY X.fr X.mg W0 fr B Ωl [] Ω' (suite n) Dn σ H
theorem Gd.tr (G : Gd X W k) {W' : WX} {pn : List (Addr × Obj)} {xe : Value → Shared → Prop} (tk : L2N.Takes (X.tr pn xe) W') (hp : PassesOwn (model X.prog X.w) X.A X.env xe) : Gd (X.tr pn xe) W' k := ⟨tk, hp, G.hc, G.nd, G.hr⟩
theorem py_try_as {x n : Str} {cc : Addr} {i : Nat} {body suite : List Stmt} {b₀ : Stmt} {np pos' : Pos} {gb : YF} {gs : Str → YF} (ns : List Str) (G : Gd X W k) (hs : X.stack = X.env :: X.outer) (hf : X.env.frame = some X.env.locals) (hi : X.N[i]? = some n) (hln : X.env.kindOf n = some .local) (hx : Gl X x) (hxm : X.mg x = some (.ref cc)) (hxd : (x == ("__debug__" : Str)) = false)
    (hm : ∀ m ∈ ns, ∀ C, X.mg m = some (.ref C) → PySem.W.exmOne X.K (.ref C) (.ref cc) = some true)
    (hb : ∀ (W' : WX) (pn : List (Addr × Obj)) (xe : Value → Shared → Prop), Gd (X.tr pn xe) W' k → PYs (X.tr pn xe) W' fr B Ωl Ω Ω' body gb)
    (hsu : ∀ (a : Addr) (oe : Obj) (C : Addr) (pn : List (Addr × Obj)) (m : Str), m ∈ ns → X.mg m = some (.ref C) → L2N.Zn (.ref C) none oe → (∃ vs, oe.data = .fields vs) → PSs (X.suite a ((a, oe) :: pn)) (b₀ :: suite) (fun Dn σ H => σ[i]? = some (some (.ref a)) ∧ tY X.fr X.mg W0 fr B Ωl [] Ω' (gs m) Dn σ H))
    : PY X W fr B Ωl Ω Ω' (.Try body [.ExceptHandler (some (.Name x np)) (some n) (b₀ :: suite) pos'] [] [] pos) (yTry i ns gb gs) := by
  refine PS.imp (L2N.ps_try_as (i := i) (c := .ref cc) (Wout := W) (tb := fun W' => tY X.fr X.mg W' fr B Ωl Ω Ω' gb) (ts := tSuite X fr B Ωl Ω' i ns gs) hs hf G.nd hi hln ⟨hx, hxd, .inl hxm⟩ G.tk (fun W' pn xe tk hp => hb W' pn xe (G.tr tk hp)) fun a oe cls d pn hz hv => ?_) fun Dn σ H ⟨H0, O0, O, ρ, S, h⟩ => ?_
  · refine ⟨fun pins s σ H Dn I ⟨⟨σ0, eσ⟩, m, C, hm1, hm2, ec, ed, t⟩ => ?_⟩
    subst ec
    subst ed
    have hl : i < σ.length := by
      have := I.len
      have h2 : i < X.N.length := (List.getElem?_eq_some_iff.mp hi).1
      have h3 : σ.length = X.N.length := this
      omega
    have hσ : σ[i]? = some (some (.ref a)) := by
      subst eσ
      rw [List.getElem?_set_self (by simpa using hl)]
    exact (hsu a oe C pn m (by simpa using hm1) hm2 hz hv).run pins s σ H Dn I ⟨hσ, t⟩
  · refine ⟨H0, O0, O, ρ, S, ?_⟩
    unfold yTry at h
    cases q : gb ρ with
    | exc m ρ' =>
      rw [q] at h
      dsimp only at h
      intro C σ' O' H' hmC st S'
      by_cases hc : ns.contains m = true
      · rw [if_pos hc] at h
        refine ⟨true, hm m (by simpa using hc) C hmC, fun _ a ha => ?_, fun z => Bool.noConfusion z⟩
        refine ⟨⟨_, rfl⟩, m, C, hc, hmC, rfl, rfl, H0, O0, O', ρ'.set i none, S'.unset, ?_⟩
        have h := GoodS.step st h
        cases q2 : gs m (ρ'.set i none) with
        | next ρ2 => rw [q2] at h; exact fun σ2 O2 H2 s2 S2 => h _ O2 H2 s2 S2.unset
        | brk ρ2 => rw [q2] at h; exact fun σ2 O2 H2 s2 S2 => h _ O2 H2 s2 S2.unset
        | cnt ρ2 => rw [q2] at h; exact fun σ2 O2 H2 s2 S2 => h _ O2 H2 s2 S2.unset
        | ret d => rw [q2] at h; exact h
        | exc m2 ρ2 => rw [q2] at h; exact h.elim
        | stuck => rw [q2] at h; exact h.elim
      · rw [if_neg hc] at h; exact h.elim
    | next ρ2 => rw [q] at h; exact h
    | brk ρ2 => rw [q] at h; exact h
    | cnt ρ2 => rw [q] at h; exact h
    | ret d => rw [q] at h; exact h
    | stuck => rw [q] at h; exact h
/-! ### what a suite tells of its exception -/
/-- an expression that is the truth b, where P holds -/
def PEb (X : Cx) (P : St → Hp → Prop) (e : Expr) (b : Bool) : Prop := PE X e (fun σ H Q => P σ H ∧ Q (.bl b) H)
section
variable {P : St → Hp → Prop} {a b : Expr} {u v : Bool} {rest : List Expr}
theorem peb_one {op} (h : PEb X P a u) : PEb X P (.BoolOp op [a] pos) u := pe_one h
theorem peb_and (ha : PEb X P a u) (hb : PEb X P (.BoolOp .And (b :: rest) pos) v) : PEb X P (.BoolOp .And (a :: b :: rest) pos) (u && v) := PE.imp (pe_and ha hb) fun σ H Q ⟨hP, h⟩ => ⟨hP, u, rfl, by
  cases u with
  | true => exact ⟨hP, h⟩
  | false => exact h⟩
theorem peb_or (ha : PEb X P a u) (hb : PEb X P (.BoolOp .Or (b :: rest) pos) v) : PEb X P (.BoolOp .Or (a :: b :: rest) pos) (u || v) := PE.imp (pe_or ha hb) fun σ H Q ⟨hP, h⟩ => ⟨hP, u, rfl, by
  cases u with
  | true => exact h
  | false => exact ⟨hP, h⟩⟩
theorem peb_not (ha : PEb X P a u) : PEb X P (.UnaryOp .Not a pos) (!u) := PE.imp (pe_not ha) fun σ H Q ⟨hP, h⟩ => ⟨hP, u, rfl, h⟩
end
theorem peb_isE {a D : Addr} {oe : Obj} {pn : List (Addr × Obj)} {P : St → Hp → Prop} {i : Nat} {n c : Str} {p1 pc : Pos} {v : V} {cv : Value} {b : Bool} (C : ExcC X.K D) (hz : Zc (.ref D) none oe) (hf : ∃ vs, oe.data = .fields vs) (hi : X.N[i]? = some n) (hvis : Vis X.env.scope n) (hd : (n == ("__debug__" : Str)) = false) (hcd : (n == ("__classdict__" : Str)) = false)
    (hc : PE (X.suite a ((a, oe) :: pn)) (.Name c pc) (tC v)) (hcv : ∀ u, RelV v u → u = cv) (hk : PySem.W.kitOne X.K (.ref D) cv = some b) (hg : Gl X "isinstance") (hm : X.mg "isinstance" = none) (hP : ∀ σ H, P σ H → σ[i]? = some (some (.ref a)))
    (hs : starEach [.Name n p1, .Name c pc] X.env = (false, eval (.Name n p1) X.env) :: starEach [.Name c pc] X.env := by rfl) (hs2 : starEach [.Name c pc] X.env = (false, eval (.Name c pc) X.env) :: starEach [] X.env := by rfl)
    (hpl : (backTo pos (starEach [.Name c pc] X.env)).any (·.1) = false := by rfl) :
    PEb (X.suite a ((a, oe) :: pn)) P (.Call (.Name "isinstance" p) [.Name n p1, .Name c pc] [] pos) b :=
  PE.imp (pe_callB (X := X.suite a ((a, oe) :: pn)) (call_isE C hz hf) hg hm (by decide +kernel) (pa_cons (pv (X := X.suite a ((a, oe) :: pn)) i hi hvis hd hcd) (pa_cons hc pa_nil hs2) hs) (by decide) (by decide) hs hpl) fun σ H Q ⟨hp, h⟩ => ⟨.ref a, hP σ H hp, v, cv, b, rfl, hcv, hk, h⟩
/-- the whole suite: a truth handed back -/
theorem suite_ret {a : Addr} {i : Nat} {b : Bool} {Y : Cx} {K : Fr} {mg : Str → Option Value} (he : PEb Y (fun σ _ => σ[i]? = some (some (.ref a))) e b) :
    PSs Y [.Return (some e) pos] (fun Dn σ H => σ[i]? = some (some (.ref a)) ∧ tY K mg W0 false B Ωl [] Ω' (fun _ => .ret (.bool b)) Dn σ H) :=
  PSs.imp (pss_one (ps_ret he)) fun Dn σ H ⟨hσ, H0, O0, O, ρ, S, h⟩ => ⟨hσ, h _ _ S.keep (.bl b)⟩
end
end MV

set_option Elab.async false
set_option linter.all false
set_option maxRecDepth 100000
set_option maxHeartbeats 4000000
/-! ### any(list) while an exception is handled -/
namespace MVH
open PySem PySem.Spec PyProof.Rows HotX
section
variable {prog : Program} {w : World} {A : Around} {E : Value → Shared → Prop} {s : Shared}
theorem pyNext_list_end_hot {it l x1 : Addr} {i : Nat} {items : Array Value} {Q : Option Value → Shared → Prop} (hot : HotAt A x1 s.heap) (hne : x1 ≠ it)
    (hit : s.heap.IsListIter it l i) (hl : s.heap.IsList l items) (hx : items[i]? = none)
    (hQ : ∀ h', (∀ b o, b ≠ it → s.heap.get? b = some o → h'.get? b = some o) → Q none { s with heap := h' }) : wpAny (model prog w) A (pyNext (.ref it)) Q E s := by
  obtain ⟨o, ho, hc, hd⟩ := id hit
  obtain ⟨ol, hol, _, nl, hdl⟩ := hl
  obtain ⟨hh, o1, vs1, h1, d1, c1⟩ := hot
  unfold pyNext
  refine wpAny_bind (wpAny_attempt (wpAny_callSpecial?_slot (name := Str.ofString "__next__") hit.typeIs slot_listiter_next
    (wpAny_call_entry slot_listiter_next hit.typeIs entry_listiter_next ?_ (args_listiter_next _))))
  show wpAny _ _ (field (.ref it) 0 >>= _) _ _ s
  refine wpAny_bind (wpAny_field ho hd (x := .ref l) rfl ?_)
  show wpAny _ _ (if (Value.ref l == Value.none) = true then _ else _) _ _ s
  rw [if_neg (show ¬ ((Value.ref l == Value.none) = true) from Bool.false_ne_true)]
  show wpAny _ _ (field (.ref it) 1 >>= _) _ _ s
  refine wpAny_bind (wpAny_field ho hd (x := .int i 0) rfl ?_)
  show wpAny _ _ (seqItems? (.ref l) >>= _) _ _ s
  refine wpAny_bind (wpAny_seqItems hol hdl ?_)
  simp only [Int.toNat_natCast, hx]
  refine wpAny_bind (wpAny_rule (wpAny_bind (wpAny_setField ho hd (by simp) ?_)))
  show wpAny _ _ (newExc (.type "StopIteration") [] >>= _) _ _ _
  refine wpAny_bind ?_
  simp only [newExc, newTuple]
  refine wpAny_bind (wpAny_newObj_type ?_ (by size_fits))
  refine wpAny_bind (m := firstArgMember _ _) (wpAny_of_eq (a := Value.none) (by first | rfl | (simp only [firstArgMember]; rfl)) ?_)
  refine wpAny_newObj_type ?_ (by size_fits)
  have h1' := (Heap.get?_update_other s.heap (Obj.mapFields fun x => x.setIfInBounds 0 Value.none) (Ne.symm hne)).trans h1
  refine raiseNew_hot ⟨hh, o1, vs1, Heap.get?_push_of_some _ (Heap.get?_push_of_some _ h1'), d1, c1⟩ (Nat.ne_of_lt (Heap.lt_size (Heap.get?_push_of_some _ h1'))) (Heap.get?_push_size _ rfl) rfl (by first | (simp; done) | (simp; omega) | (simp only [Array.size_append]; simp; omega)) ?_
  refine wpAny_bind (wpAny_isInstance (T := "StopIteration") (b := true) ⟨_, Heap.get?_update_self _ (Heap.get?_push_size _ rfl) rfl, rfl⟩ isSubtype_stop ?_)
  refine wpAny_pure (hQ _ fun b o hb e => ?_)
  have e' := (Heap.get?_update_other s.heap (Obj.mapFields fun x => x.setIfInBounds 0 Value.none) (Ne.symm hb)).trans e
  rw [Heap.get?_update_other _ _ (Nat.ne_of_gt (Heap.lt_size (Heap.get?_push_of_some _ e')))]
  exact Heap.get?_push_of_some _ (Heap.get?_push_of_some _ e')
theorem walks_list_hot {x1 : Addr} (hh : A.handled = some (.ref x1)) (I ax : Addr) (hne : ax ≠ I) (h1 : x1 ≠ I) (items : Array Value) :
    Walks prog w A I [I, ax, x1] [I] items.size (fun i v => items[i]? = some v) (fun i h => (h.IsListIter I ax i ∧ h.IsList ax items) ∧ HotAt A x1 h) where
  sub := fun b hb => by simp at hb; simp [hb]
  frame := fun _ _ _ st hk => ⟨⟨st.1.1.at fun o e => hk I (by simp) o e, st.1.2.at fun o e => hk ax (by simp) o e⟩, st.2.1, by
    obtain ⟨_, o, vs, e, d, c⟩ := st.2
    exact ⟨o, vs, hk x1 (by simp) o e, d, c⟩⟩
  item := fun i s Q E hi st hQ => by
    refine wpAny_pyNext_list_item st.1.1 st.1.2 (x := items[i]) (by simp [hi]) fun h' hit' hs' => ?_
    refine hQ _ h' s.toks (by simp [hi]) ⟨⟨hit', st.1.2.extBut hs'.extBut hne⟩, st.2.1, ?_⟩ fun b o hb e => hs'.extBut b o (fun h => hb (by simp [h])) e
    obtain ⟨_, o, vs, e, d, c⟩ := st.2
    exact ⟨o, vs, hs'.extBut x1 o h1 e, d, c⟩
  done := fun s Q E st hQ => pyNext_list_end_hot st.2 h1 st.1.1 st.1.2 (by simp) fun h' he' => hQ h' s.toks fun b o hb e => he' b o (fun h => hb (by simp [h])) e
  self := fun _ _ _ _ st hQ => wpAny_pyIter_listiter st.1.1 hQ
end
open L2 in
theorem cr_anyH {X : Cx} {a : Addr} {cls : Value} {d : Option Addr} {oe : Obj} {pn : List (Addr × Obj)} (hz : L2N.Zn cls d oe) (hf : ∃ vs, oe.data = .fields vs) : CallR (X.suite a ((a, oe) :: pn)) (.builtin "any") (rAny X.K) := by
  intro pins s σ H vs us Q I r h
  obtain ⟨l, bs, rfl, hs, q⟩ := h
  obtain ⟨its, rv, hl, _⟩ := I.list hs
  rw [Vals.ref1 r]
  have hb := rv.bls
  obtain ⟨ha, _⟩ := I.pin (a, oe) (List.mem_append_left _ List.mem_cons_self)
  obtain ⟨fv, hd⟩ := hf
  refine call_any_walk (iter_any hl.isList fun s₂ e2 st hne => ?_)
  subst e2
  refine ⟨_, _, _, _, _, _, _, rfl, walks_list_hot (x1 := a) (A := (X.suite a ((a, oe) :: pn)).A.in1) rfl _ l hne (Nat.ne_of_lt (Heap.lt_size ha)) its.toArray, ⟨st, rfl, oe, fv, Heap.get?_push_of_some _ ha, hd, hz.2.2 fv hd⟩, truth_bools hb, fun h' tk hk => ?_⟩
  refine ⟨.bl _, H, I.kept fun b o eo => hk b o (fun hmem => ?_) (Heap.get?_push_of_some _ eo), ?_, q⟩
  · rcases List.mem_cons.mp hmem with e1 | hmem
    · exact absurd (e1 ▸ Heap.lt_size eo) (Nat.lt_irrefl _)
    · cases hmem
  · show Value.bool _ = Value.bool _
    rw [← L2.any_range, hb, List.size_toArray, List.length_map]
end MVH

set_option Elab.async false
set_option linter.all false
set_option maxRecDepth 100000
set_option maxHeartbeats 4000000
namespace MV
open PySem L2
/-! ### suites of several statements -/
section
variable {X : Cx} {P P2 : St → Hp → Prop} {a b e : Expr} {es rest : List Expr} {u v : Bool} {bs cs : List Bool} {pos p apos : Pos} {st : Stmt} {sts : List Stmt} {B Ω' Ωl : List Nat} {w : V}
/-- expressions that are the truths bs -/
def PAb (X : Cx) (P : St → Hp → Prop) (es : List Expr) (bs : List Bool) : Prop := PA X es (fun σ H Q => P σ H ∧ Q (bs.map V.bl) H)
theorem PA.imp' {t t' : TA} (h : PA X es t) (w : ∀ σ H Q, t' σ H Q → t σ H Q) : PA X es t' := ⟨fun pos pins s σ H Q I q => h.run pos pins s σ H Q I (w σ H Q q)⟩
theorem pab_nil : PAb X P [] [] := PA.imp' pa_nil fun σ H Q ⟨_, h⟩ => h
theorem pab_cons (ha : PEb X P a u) (hr : PAb X P es bs) (hs : starEach (a :: es) X.env = (false, eval a X.env) :: starEach es X.env := by rfl) : PAb X P (a :: es) (u :: bs) :=
  PA.imp' (pa_cons ha hr hs) fun σ H Q ⟨hP, h⟩ => ⟨hP, hP, h⟩
/-- the suite hands back w -/
def PSr (Y : Cx) (P : St → Hp → Prop) (sts : List Stmt) (w : V) : Prop := PSs Y sts (fun Dn σ H => P σ H ∧ ∀ H', Same H H' → Dn.rt w H')
theorem psr_ret (he : PEb X P e u) : PSr X P [.Return (some e) pos] (.bl u) := PSs.imp (pss_one (ps_ret he)) fun Dn σ H ⟨hP, h⟩ => ⟨hP, h _ Same.refl⟩
theorem psr_retc (he : PE X e (tC w)) : PSr X P [.Return (some e) pos] w := PSs.imp (pss_one (ps_ret he)) fun Dn σ H ⟨hP, h⟩ => h _ Same.refl
/-- slot i holds the exception at a -/
def ExcAt (i : Nat) (a : Addr) : St → Hp → Prop := fun σ _ => σ[i]? = some (some (.ref a))
/-- .. and slot o a list of the truths bs -/
def OthAt (i : Nat) (a : Addr) (o : Nat) (bs : List Bool) : St → Hp → Prop := fun σ H => σ[i]? = some (some (.ref a)) ∧ ∃ q, σ[o]? = some (some (.ref q)) ∧ H q = some (.lst (bs.map .bl))
theorem PSr.imp (h : PSr X P sts w) (hp : ∀ σ H, P2 σ H → P σ H) : PSr X P2 sts w := PSs.imp h fun Dn σ H ⟨h1, h2⟩ => ⟨hp σ H h1, h2⟩
theorem set_get {σ : St} {i o : Nat} {x y : Option V} (h : σ[i]? = some x) (ne : i ≠ o) : (σ.set o y)[i]? = some x := by rw [List.getElem?_set_ne (Ne.symm ne)]; exact h
end
/-- o = [..] -/
theorem psr_set {X : Cx} {i o : Nat} {ai : Addr} {x : Str} {es : List Expr} {bs : List Bool} {sts : List Stmt} {w : V} {pos lp p' : Pos} (hN : X.N.Nodup) (ho : X.N[o]? = some x) (hx : Loc X.env.scope x) (ne : i ≠ o) (hl : PAb X (ExcAt i ai) es bs) (hz : bs.length ≤ sizeLine)
    (hs : swapsWith (.List es lp) (some (.Name x p')) pos.line X.env = pure false := by rfl) (hf : X.fn x = true ∨ X.env.scope.names.lookup x = some .local := by first | exact .inl rfl | exact .inr rfl)
    (hr : PSr X (OthAt i ai o bs) sts w) : PSr X (ExcAt i ai) (.Assign [.Name x p'] (.List es lp) pos :: sts) w := by
  refine ⟨fun pins s σ H D I h => ?_⟩
  have hlen : o < σ.length := by
    have := I.len
    have h2 : o < X.N.length := (List.getElem?_eq_some_iff.mp ho).1
    have h3 : σ.length = X.N.length := this
    omega
  refine (pss_cons (ps_set (i := o) hN ho hx (pe_lst hl) hs hf) hr).run pins s σ H D I ⟨h.1, by simpa using hz, fun p hp => ?_⟩
  exact ⟨⟨set_get h.1 ne, p, by rw [List.getElem?_set_self hlen], upd_same⟩, fun H' s' => h.2 H' (Same.tr (same_upd hp) s')⟩
/-- o = o + [..] -/
theorem psr_add {X : Cx} {i o : Nat} {ai : Addr} {x : Str} {es : List Expr} {bs cs : List Bool} {sts : List Stmt} {w : V} {pos lp p' p2 bp : Pos} (hN : X.N.Nodup) (ho : X.N[o]? = some x) (hx : Loc X.env.scope x) (hv : Vis X.env.scope x) (hd : (x == ("__debug__" : Str)) = false) (hcd : (x == ("__classdict__" : Str)) = false) (ne : i ≠ o)
    (hl : PAb X (OthAt i ai o bs) es cs) (hz : cs.length ≤ sizeLine) (hz2 : bs.length + cs.length ≤ sizeLine)
    (hs : swapsWith (.BinOp (.Name x p2) .Add (.List es lp) bp) (some (.Name x p')) pos.line X.env = pure false := by rfl) (hf : X.fn x = true ∨ X.env.scope.names.lookup x = some .local := by first | exact .inl rfl | exact .inr rfl)
    (hr : PSr X (OthAt i ai o (bs ++ cs)) sts w) : PSr X (OthAt i ai o bs) (.Assign [.Name x p'] (.BinOp (.Name x p2) .Add (.List es lp) bp) pos :: sts) w := by
  refine ⟨fun pins s σ H D I h => ?_⟩
  have hlen : o < σ.length := by
    have := I.len
    have h2 : o < X.N.length := (List.getElem?_eq_some_iff.mp ho).1
    have h3 : σ.length = X.N.length := this
    omega
  obtain ⟨⟨h1, q, e1, e2⟩, h3⟩ := h
  refine (pss_cons (ps_set (i := o) hN ho hx (pe_op op_cat (pv o ho hv hd hcd) (pe_lst hl)) hs hf) hr).run pins s σ H D I ⟨.ref q, e1, ⟨h1, q, e1, e2⟩, by simpa using hz, fun p hp => ?_⟩
  have hqp : q ≠ p := fun z => by rw [z, hp] at e2; cases e2
  refine ⟨q, p, bs.map .bl, cs.map .bl, rfl, rfl, (upd_ne hqp).trans e2, upd_same, by simpa using hz2, fun p2 hp2 => ?_⟩
  refine ⟨⟨set_get h1 ne, p2, by rw [List.getElem?_set_self hlen], ?_⟩, fun H' s' => h3 H' (Same.tr (Same.tr (same_upd hp) (same_upd hp2)) s')⟩
  rw [List.map_append]; exact upd_same
section
variable {X : Cx} {i o : Nat} {a : Addr} {bs : List Bool} {n : Str} {p p2 pos : Pos} {cls : Value} {d : Option Addr} {oe : Obj} {pn : List (Addr × Obj)}
/-- any(o) -/
theorem peb_any (hz : L2N.Zn cls d oe) (hf : ∃ vs, oe.data = .fields vs) (hg : Gl X "any") (hm : X.mg "any" = none) (ho : X.N[o]? = some n) (hv : Vis X.env.scope n) (hd : (n == ("__debug__" : Str)) = false) (hcd : (n == ("__classdict__" : Str)) = false)
    (hs : starEach [.Name n p2] X.env = (false, eval (.Name n p2) X.env) :: starEach [] X.env := by rfl) (hpl : (backTo pos (starEach [] X.env)).any (·.1) = false := by rfl) :
    PEb (X.suite a ((a, oe) :: pn)) (OthAt i a o bs) (.Call (.Name "any" p) [.Name n p2] [] pos) (bs.any id) :=
  PE.imp (pe_callB (X := X.suite a ((a, oe) :: pn)) (MVH.cr_anyH hz hf) hg hm (by decide +kernel) (pa_cons (pv (X := X.suite a ((a, oe) :: pn)) o ho hv hd hcd) pa_nil hs) (by decide) (by decide) hs hpl) fun σ H Q ⟨⟨_, q, e1, e2⟩, h⟩ => ⟨.ref q, e1, q, bs, rfl, .inl (.inl e2), h⟩
end
/-- a suite that hands back w is the mirror's that returns d -/
theorem suite_of {Y : Cx} {i : Nat} {a : Addr} {sts : List Stmt} {w : V} {dd : D} {K : Fr} {mg : Str → Option Value} {B Ωl Ω' : List Nat} (h : PSr Y (ExcAt i a) sts w) (hw : ∀ O H, Rp K O H w dd) :
    PSs Y sts (fun Dn σ H => σ[i]? = some (some (.ref a)) ∧ tY K mg W0 false B Ωl [] Ω' (fun _ => .ret dd) Dn σ H) :=
  PSs.imp h fun Dn σ H ⟨hσ, H0, O0, O, ρ, S, r⟩ => ⟨hσ, fun H' s' => r _ _ (Same.tr S.keep s') (hw _ _)⟩
end MV

set_option Elab.async false
set_option linter.all false
set_option maxRecDepth 100000
set_option maxHeartbeats 4000000
namespace MV
open PySem L2
section
variable {X : Cx} {W : WX} {B Ω Ω' Ωl : List Nat} {fr : Bool} {k : Nat} {st : Stmt} {o e a : Expr} {ga gb : Env → R D} {pos p apos : Pos}
/-! ### strip(signs) -/
def stripS (a : Str) : D → R D
  | .str b => okIf (decide (a.length ≤ sizeLine) && PyData.strOk (Txt.stripChars a b)) (.str (Txt.stripChars a b))
  | _ => .stuck
theorem px_strip1 (ho : PX X W B Ω o ga) (he : PB X W B Ω e gb) (hs : starEach [e] X.env = [(false, eval e X.env)] := by rfl) (hbase : attributeBase o "strip" X.env (eval o X.env) = eval o X.env := by rfl) (hline : (apos.endLine == pos.line) = true := by rfl) :
    PX X W B Ω (.Call (.Attribute o "strip" apos) [e] [] pos) (xM1 stripS ga gb) :=
  px_m1 F.slot_str_strip F.type_str_strip mt_stripChars (fun z y n => by cases y <;> simp only [stripS] <;> (try unfold okIf) <;> (try split) <;> simp) (fun O H z u y d Q ht hz hy e q => by
    cases y <;> simp only [stripS] at e <;> try cases e
    obtain ⟨c, rfl⟩ := okIf_ok e
    rw [Bool.and_eq_true, decide_eq_true_eq] at c
    obtain ⟨rfl, _⟩ := hy.str
    exact ⟨_, _, rfl, rfl, c.1, q _ H Same.refl (.str _ c.2)⟩) ho he hs hbase hline
/-! ### one sign, several times -/
def mulOkS (z : Str) (n : Int) : Bool := decide (z.length = 1) && decide (1 ≤ n) && decide (n ≤ 1000)
theorem mulOk_of {z : Str} {n : Int} (h : mulOkS z n = true) : MulOk z n := by
  simp only [mulOkS, Bool.and_eq_true, decide_eq_true_eq] at h
  obtain ⟨⟨h1, h2⟩, h3⟩ := h
  refine ⟨?_, fun _ _ => ?_, fun _ _ => ?_⟩
  · rw [Bool.or_eq_false_iff]
    exact ⟨decide_eq_false (by omega), decide_eq_false (by omega)⟩
  · rw [h1]
    have : (1 : Int) ≤ (2 ^ 63 - 1) / n := (Int.le_ediv_iff_mul_le (by omega)).mpr (by omega)
    show ¬ ((1 : Nat) : Int) > _
    omega
  · rw [h1]
    have : n.toNat ≤ 1000 := by omega
    generalize n.toNat = m at *
    have hs := small (show m ≤ 1000000 by omega)
    show decide (1 * m > sizeLine) = false
    rw [Nat.one_mul]
    exact decide_eq_false (by omega)
def mulSD : D → D → R D
  | .str z, .int n => okIf (mulOkS z n && PyData.strOk (Txt.mul z n)) (.str (Txt.mul z n))
  | _, _ => .stuck
abbrev rMulS : R2 := fun x y H Q => ∃ z n, x = .str z ∧ y = .int n ∧ mulOkS z n = true ∧ Q (.str (Txt.mul z n)) H
theorem op_mulS : OpR X (binaryOp .Mult) rMulS := by
  intro pins s σ H x y v u Q I rx ry h
  obtain ⟨z, n, rfl, rfl, hz, q⟩ := h
  obtain ⟨t, rfl⟩ := rx
  obtain ⟨t', rfl⟩ := ry
  exact SB.mul (mulOk_of hz) fun t' tk => ⟨.str (Txt.mul z n), H, I.tok _, ⟨_, rfl⟩, q⟩
theorem nox_mulS : NoX mulSD := by intro x y n; cases x <;> cases y <;> simp only [mulSD] <;> (try unfold okIf) <;> (try split) <;> simp
theorem rb_mulS : RB X rMulS mulSD := by
  intro O H x y dx dy d Q ht hx hy e q
  cases dx <;> cases dy <;> simp only [mulSD] at e <;> try cases e
  obtain ⟨rfl, _⟩ := hx.str
  obtain rfl := hy.int
  obtain ⟨c, rfl⟩ := okIf_ok e
  rw [Bool.and_eq_true] at c
  exact ⟨_, _, rfl, rfl, c.1, q _ H Same.refl (.str _ c.2)⟩
end
end MV

set_option Elab.async false
set_option linter.all false
set_option maxRecDepth 100000
set_option maxHeartbeats 4000000
namespace MV
open PySem L2
/-! ### suites with an if, with a text handed back -/
section
variable {X : Cx} {P : St → Hp → Prop} {a b c e : Expr} {es rest' : List Expr} {u v : Bool} {pos p lp : Pos} {as bs rest : List Stmt} {w : V} {ws : List V}
def PTb (X : Cx) (P : St → Hp → Prop) (e : Expr) (b : Bool) : Prop := PT X e (fun σ H Q => P σ H ∧ Q b H)
def PWb (X : Cx) (P : St → Hp → Prop) (e : Expr) (b : Bool) : Prop := PW X e (fun σ H Q => P σ H ∧ Q b H)
theorem PT.imp' {t t' : TT} (h : PT X e t) (w : ∀ σ H Q, t' σ H Q → t σ H Q) : PT X e t' := ⟨fun pins s σ H Q I q => h.run pins s σ H Q I (w σ H Q q)⟩
theorem PW.imp' {t t' : TT} (h : PW X e t) (w : ∀ σ H Q, t' σ H Q → t σ H Q) : PW X e t' := ⟨fun wh pins s σ H Q I q => h.run wh pins s σ H Q I (w σ H Q q)⟩
theorem ptb_val (h : PEb X P e u) (he : ∀ whole, isTrue e X.env whole = (do let v ← whole; standAt e.pos; holding [v] (truthy v)) := by intro _; rfl) : PTb X P e u :=
  PT.imp' (pt_val h he) fun σ H Q ⟨hP, q⟩ => ⟨hP, u, rfl, q⟩
theorem ptb_not (h : PTb X P a u) : PTb X P (.UnaryOp .Not a pos) (!u) := PT.imp' (pt_not h) fun σ H Q ⟨hP, q⟩ => ⟨hP, q⟩
theorem pwb_and1 (h : PTb X P a u) : PWb X P (.BoolOp .And [a] pos) u := pw_and1 h
theorem pwb_or1 (h : PTb X P a u) : PWb X P (.BoolOp .Or [a] pos) u := pw_or1 h
theorem pwb_and (ha : PTb X P a u) (hb : PWb X P (.BoolOp .And (b :: rest') pos) v) : PWb X P (.BoolOp .And (a :: b :: rest') pos) (u && v) := PW.imp' (pw_and ha hb) fun σ H Q ⟨hP, q⟩ => ⟨hP, by
  cases u with
  | true => exact ⟨hP, q⟩
  | false => exact q⟩
theorem pwb_or (ha : PTb X P a u) (hb : PWb X P (.BoolOp .Or (b :: rest') pos) v) : PWb X P (.BoolOp .Or (a :: b :: rest') pos) (u || v) := PW.imp' (pw_or ha hb) fun σ H Q ⟨hP, q⟩ => ⟨hP, by
  cases u with
  | true => exact q
  | false => exact ⟨hP, q⟩⟩
theorem ptb_w (h : PWb X P a u) : PTb X P a u := PW.pt h
theorem ptb_eq (hu : X.A.units + 64 < cLine) (ha : PEb X P a u) (hb : PEb X P b v) (hm : behindInMarks .Eq b = false) : PTb X P (.Compare a [.Eq] [b] pos) (u == v) :=
  PT.imp' (pt_cmpR (op_eqD hu) ha hb hm) fun σ H Q ⟨hP, q⟩ => ⟨hP, hP, .bool u, .bool v, .bl u, .bl v, rfl, rfl, u == v, rfl, q⟩
theorem psr_if_t (ht : PTb X P c u) (hu : u = true) (ha : PSr X P as w) : PSr X P (.If c as bs pos :: rest) w :=
  PSs.imp (pss_cons (ps_if ht ha pss_never) pss_never) fun Dn σ H ⟨hP, h⟩ => ⟨hP, by
    subst hu
    show if true = true then _ else _
    rw [if_pos rfl]
    exact ⟨hP, h⟩⟩
theorem psr_if_f (ht : PTb X P c u) (hu : u = false) (hr : PSr X P rest w) : PSr X P (.If c as [] pos :: rest) w :=
  PSs.imp (pss_cons (ps_if ht pss_never pss_nil) hr) fun Dn σ H ⟨hP, h⟩ => ⟨hP, by
    subst hu
    show if false = true then _ else _
    rw [if_neg (by decide)]
    exact ⟨hP, h⟩⟩
/-- an expression that is w, where P holds -/
def PEv (X : Cx) (P : St → Hp → Prop) (e : Expr) (w : V) : Prop := PE X e (fun σ H Q => P σ H ∧ Q w H)
def PAv (X : Cx) (P : St → Hp → Prop) (es : List Expr) (ws : List V) : Prop := PA X es (fun σ H Q => P σ H ∧ Q ws H)
theorem pev_c (h : PE X e (tC w)) : PEv X P e w := PE.imp h fun σ H Q ⟨_, q⟩ => q
theorem pav_nil : PAv X P [] [] := PA.imp' pa_nil fun σ H Q ⟨_, h⟩ => h
theorem pav_cons (ha : PEv X P a w) (hr : PAv X P es ws) (hs : starEach (a :: es) X.env = (false, eval a X.env) :: starEach es X.env := by rfl) : PAv X P (a :: es) (w :: ws) :=
  PA.imp' (pa_cons ha hr hs) fun σ H Q ⟨hP, h⟩ => ⟨hP, hP, h⟩
theorem pev_int (ha : PEb X P a u) (hg : Gl X "int") (hm : X.mg "int" = none)
    (hs : starEach [a] X.env = (false, eval a X.env) :: starEach [] X.env := by rfl) (hpl : (backTo pos (starEach [] X.env)).any (·.1) = false := by rfl) :
    PEv X P (.Call (.Name "int" p) [a] [] pos) (.int (if u then 1 else 0)) :=
  PE.imp (pe_callTy call_int1 hg hm (by decide +kernel) (pa_cons ha pa_nil hs) (by decide) (by decide) hs hpl) fun σ H Q ⟨hP, q⟩ => ⟨hP, .inr ⟨u, rfl, q⟩⟩
/-- [..][i] -/
theorem psr_pick {i : Int} {ix : Expr} {ip : Pos} (hP : ∀ σ H H', Same H H' → P σ H → P σ H') (hl : PAv X P es ws) (hi : PEv X P ix (.int i)) (hx : PlainIx ix) (ha : atI ws i = some w) (hz : ws.length ≤ sizeLine) :
    PSr X P [.Return (some (.Subscript (.List es lp) ix ip)) pos] w :=
  PSs.imp (pss_one (ps_ret (pe_ix ix_list (pe_lst hl) hi hx))) fun Dn σ H ⟨h, q⟩ => ⟨h, hz, fun p hp => ⟨hP σ H _ (same_upd hp) h, p, ws, i, w, rfl, rfl, .inl (.inl upd_same), ha, q _ (same_upd hp)⟩⟩
theorem exc_same {i : Nat} {a : Addr} : ∀ σ H H', Same H H' → ExcAt i a σ H → ExcAt i a σ H' := fun _ _ _ _ h => h
theorem oth_same {i o : Nat} {a : Addr} {bs : List Bool} : ∀ σ H H', Same H H' → OthAt i a o bs σ H → OthAt i a o bs σ H' := fun _ _ _ s ⟨h, q, e1, e2⟩ => ⟨h, q, e1, s q _ e2⟩
end
theorem suite_eq {Y : Cx} {i : Nat} {a : Addr} {sts : List Stmt} {K : Fr} {mg : Str → Option Value} {B Ωl Ω' : List Nat} {f g : YF} (e : f = g)
    (h : PSs Y sts (fun Dn σ H => σ[i]? = some (some (.ref a)) ∧ tY K mg W0 false B Ωl [] Ω' g Dn σ H)) :
    PSs Y sts (fun Dn σ H => σ[i]? = some (some (.ref a)) ∧ tY K mg W0 false B Ωl [] Ω' f Dn σ H) := by rw [e]; exact h
end MV

set_option Elab.async false
set_option linter.all false
set_option maxRecDepth 100000
set_option maxHeartbeats 4000000
/-! ### min, max of a tuple -/
namespace MVX
open PySem PySem.Spec PyProof.Rows
section
variable {prog : Program} {w : World} {A : Around} {E : Value → Shared → Prop} {s : Shared} {l : Addr} {xs : Array (Int × Tok)} {its : List Value} {ns : List Int}
theorem iter_intTup {Q : Value → Shared → Prop} (hl : s.heap.IsTuple l (intItems xs))
    (h : ∀ s₂ : Shared, s₂ = { s with heap := s.heap.push { cls := .type "tuple_iterator", data := .fields #[.ref l, .int 0 0] } } →
      (s₂.heap.IsTupleIter s.heap.objs.size l 0 ∧ s₂.heap.IsTuple l (intItems xs)) → (∀ b ∈ [s.heap.objs.size, l], b < s₂.heap.objs.size) → l ≠ s.heap.objs.size → Q (.ref s.heap.objs.size) s₂) :
    wpAny (model prog w) A (pyIter (.ref l)) Q E s := by
  have hlt : l < s.heap.objs.size := by obtain ⟨_, e, _⟩ := hl; exact Heap.lt_size e
  refine wpAny_pyIter_tuple hl (h _ rfl ⟨⟨_, Heap.get?_push_size _ rfl, rfl, rfl⟩, hl.push _⟩ (fun b hb => ?_) (Nat.ne_of_lt hlt))
  show b < (s.heap.push _).objs.size
  rw [Heap.size_push]
  rcases List.mem_cons.mp hb with rfl | hb
  · exact Nat.lt_succ_self _
  · rcases List.mem_cons.mp hb with rfl | hb
    · exact Nat.lt_succ_of_lt hlt
    · cases hb
theorem old_keptT {h' : Heap} {o' : Obj} (hk : ∀ b o, b ∉ [s.heap.objs.size] → (s.heap.push o').get? b = some o → h'.get? b = some o) :
    ∀ b o, s.heap.get? b = some o → h'.get? b = some o := fun b o e => by
  refine hk b o (fun hm => ?_) (Heap.get?_push_of_some _ e)
  rcases List.mem_cons.mp hm with e1 | hm
  · exact absurd (e1 ▸ Heap.lt_size e) (Nat.lt_irrefl _)
  · cases hm
theorem min_intTup {Q : Value → Shared → Prop} (hh : A.handled = none) (hl : s.heap.IsTuple l (intItems xs)) (hne : 0 < xs.size)
    (h : ∀ v h' tk, (intItems xs)[argBest (fun i j => decide (numAt xs i < numAt xs j)) (xs.size - 1)]? = some v → (∀ b o, s.heap.get? b = some o → h'.get? b = some o) → Q v { s with heap := h', toks := tk }) :
    wpAny (model prog w) A (call (.builtin "min") [.ref l]) Q E s := by
  refine call_min_walk (iter_intTup hl fun s₂ e st hfp hlI => ?_)
  subst e
  refine ⟨_, _, _, _, _, _, _, rfl, Walks.tuple (A := A.in1) hh _ l hlI (intItems xs), st, hfp, by simpa [intItems] using hne, CmpOf.ints_lt (numAt xs) (fun _ _ => intItems_at), fun v h' tk hP hk => ?_⟩
  exact h v h' tk (by simpa [intItems] using hP) (old_keptT hk)
theorem max_intTup {Q : Value → Shared → Prop} (hh : A.handled = none) (hl : s.heap.IsTuple l (intItems xs)) (hne : 0 < xs.size)
    (h : ∀ v h' tk, (intItems xs)[argBest (fun i j => decide (numAt xs i > numAt xs j)) (xs.size - 1)]? = some v → (∀ b o, s.heap.get? b = some o → h'.get? b = some o) → Q v { s with heap := h', toks := tk }) :
    wpAny (model prog w) A (call (.builtin "max") [.ref l]) Q E s := by
  refine call_max_walk (iter_intTup hl fun s₂ e st hfp hlI => ?_)
  subst e
  refine ⟨_, _, _, _, _, _, _, rfl, Walks.tuple (A := A.in1) hh _ l hlI (intItems xs), st, hfp, by simpa [intItems] using hne, CmpOf.ints_gt (numAt xs) (fun _ _ => intItems_at), fun v h' tk hP hk => ?_⟩
  exact h v h' tk (by simpa [intItems] using hP) (old_keptT hk)
end
end MVX
namespace MV
open PySem L2 MVX
section
variable {prog : Program} {w : World} {A : Around} {E : Value → Shared → Prop} {s : Shared} {l : Addr} {its : List Value} {ns : List Int} {Q : Value → Shared → Prop}
theorem max_rawT (hh : A.handled = none) (hl : s.heap.IsTuple l its.toArray) (hi : PyProof.Rows.IntsAre its ns) (hne : 0 < ns.length)
    (h : ∀ h' tk M t', (∀ b o, s.heap.get? b = some o → h'.get? b = some o) → M ∈ ns → (∀ a, a ∈ ns → a ≤ M) → Q (.int M t') { s with heap := h', toks := tk }) : wpAny (model prog w) A (call (.builtin "max") [.ref l]) Q E s := by
  obtain ⟨xs, e⟩ := hi.allInts.items
  have hn : numsOf (intItems xs).toList = ns := by rw [← e]; exact hi.numsOf
  rw [nums_intItems] at hn
  subst hn
  rw [e] at hl
  have hsz : 0 < xs.size := by simpa using hne
  refine max_intTup hh hl hsz fun v h' tk hv hk => ?_
  obtain ⟨t, rfl⟩ := intItems_at hv
  obtain ⟨h1, h2⟩ := argBest_gt (numAt xs) (xs.size - 1)
  refine h h' tk _ t hk ?_ fun a ha => ?_
  · rw [numAt_eq]; exact PySem.getD_mem (by rw [List.length_map, Array.length_toList]; omega)
  · obtain ⟨j, hj, rfl⟩ := mem_getD ha
    rw [List.length_map, Array.length_toList] at hj
    rw [← numAt_eq]; exact h2 j (by omega)
theorem min_rawT (hh : A.handled = none) (hl : s.heap.IsTuple l its.toArray) (hi : PyProof.Rows.IntsAre its ns) (hne : 0 < ns.length)
    (h : ∀ h' tk M t', (∀ b o, s.heap.get? b = some o → h'.get? b = some o) → M ∈ ns → (∀ a, a ∈ ns → M ≤ a) → Q (.int M t') { s with heap := h', toks := tk }) : wpAny (model prog w) A (call (.builtin "min") [.ref l]) Q E s := by
  obtain ⟨xs, e⟩ := hi.allInts.items
  have hn : numsOf (intItems xs).toList = ns := by rw [← e]; exact hi.numsOf
  rw [nums_intItems] at hn
  subst hn
  rw [e] at hl
  have hsz : 0 < xs.size := by simpa using hne
  refine min_intTup hh hl hsz fun v h' tk hv hk => ?_
  obtain ⟨t, rfl⟩ := intItems_at hv
  obtain ⟨h1, h2⟩ := argBest_lt (numAt xs) (xs.size - 1)
  refine h h' tk _ t hk ?_ fun a ha => ?_
  · rw [numAt_eq]; exact PySem.getD_mem (by rw [List.length_map, Array.length_toList]; omega)
  · obtain ⟨j, hj, rfl⟩ := mem_getD ha
    rw [List.length_map, Array.length_toList] at hj
    rw [← numAt_eq]; exact h2 j (by omega)
end
section
variable {X : Cx}
def rMaxT : List V → Hp → VK → Prop := fun vs H Q => ∃ (a : Addr) (ns : List Int), vs = [V.ref a] ∧ H a = some (.tup (ns.map V.int)) ∧ 0 < ns.length ∧ ∀ m, m ∈ ns → (∀ y, y ∈ ns → y ≤ m) → Q (.int m) H
def rMinT : List V → Hp → VK → Prop := fun vs H Q => ∃ (a : Addr) (ns : List Int), vs = [V.ref a] ∧ H a = some (.tup (ns.map V.int)) ∧ 0 < ns.length ∧ ∀ m, m ∈ ns → (∀ y, y ∈ ns → m ≤ y) → Q (.int m) H
theorem cr_maxT (hc : X.calm = true) : CallR X (.builtin "max") rMaxT := by
  intro pins s σ H vs us Q I r h
  obtain ⟨a, ns, rfl, hs, hne, q⟩ := h
  obtain ⟨its, rv, hl, _⟩ := I.tuple (.inl (.inl hs))
  rw [Vals.ref1 r]
  exact max_rawT (I.ok.hd hc) hl rv.ints hne fun h' tk m t' hk h1 h2 => ⟨.int _, H, I.kept hk, ⟨_, rfl⟩, q m h1 h2⟩
theorem cr_minT (hc : X.calm = true) : CallR X (.builtin "min") rMinT := by
  intro pins s σ H vs us Q I r h
  obtain ⟨a, ns, rfl, hs, hne, q⟩ := h
  obtain ⟨its, rv, hl, _⟩ := I.tuple (.inl (.inl hs))
  rw [Vals.ref1 r]
  exact min_rawT (I.ok.hd hc) hl rv.ints hne fun h' tk m t' hk h1 h2 => ⟨.int _, H, I.kept hk, ⟨_, rfl⟩, q m h1 h2⟩
/-- min, max of a tuple of ints -/
def minTF : List D → R D
  | [.tuple ds] => match intsOf ds with
    | some (n :: ns) => .ok (.int (ns.foldl min n))
    | _ => .stuck
  | _ => .stuck
def maxTF : List D → R D
  | [.tuple ds] => match intsOf ds with
    | some (n :: ns) => .ok (.int (ns.foldl max n))
    | _ => .stuck
  | _ => .stuck
theorem nox_minT : NoXl minTF := by intro ds n; unfold minTF; split <;> (try split) <;> simp
theorem nox_maxT : NoXl maxTF := by intro ds n; unfold maxTF; split <;> (try split) <;> simp
theorem rc_minT : RCB X rMinT minTF [true] := by
  intro O H vs ds d Q ht h e q
  obtain ⟨v, d', rfl, rfl, r⟩ := rpk1 h
  cases d' <;> simp only [minTF] at e <;> try cases e
  split at e
  · rename_i n ns hns
    cases e
    obtain rfl := intsOf_eq hns
    obtain ⟨p, xs, rfl, h1, h2⟩ := r.tup
    obtain rfl := rp_ints h2
    refine ⟨p, n :: ns, rfl, h1.2, by simp, fun m hm hl => ?_⟩
    have e1 := hl _ (foldl_min_mem ns n)
    obtain ⟨e2, e3⟩ := foldl_min_le ns n
    have e4 : ns.foldl min n ≤ m := by
      rcases List.mem_cons.mp hm with rfl | hm
      · exact e2
      · exact e3 m hm
    have e5 : ns.foldl min n = m := by omega
    rw [e5] at q
    exact q _ H Same.refl (.int _)
  · cases e
theorem rc_maxT : RCB X rMaxT maxTF [true] := by
  intro O H vs ds d Q ht h e q
  obtain ⟨v, d', rfl, rfl, r⟩ := rpk1 h
  cases d' <;> simp only [maxTF] at e <;> try cases e
  split at e
  · rename_i n ns hns
    cases e
    obtain rfl := intsOf_eq hns
    obtain ⟨p, xs, rfl, h1, h2⟩ := r.tup
    obtain rfl := rp_ints h2
    refine ⟨p, n :: ns, rfl, h1.2, by simp, fun m hm hl => ?_⟩
    have e1 := hl _ (foldl_max_mem ns n)
    obtain ⟨e2, e3⟩ := foldl_max_ge ns n
    have e4 : m ≤ ns.foldl max n := by
      rcases List.mem_cons.mp hm with rfl | hm
      · exact e2
      · exact e3 m hm
    have e5 : ns.foldl max n = m := by omega
    rw [e5] at q
    exact q _ H Same.refl (.int _)
  · cases e
end
end MV

/-! ### list(dict), sorted(dict, key=f) -/
namespace MVX
open PySem PySem.Spec PyProof.Rows PySem.W
section
variable {prog : Program} {w : World} {A : Around} {E : Value → Shared → Prop} {s : Shared} {T : String} {r d : Addr} {n : Nat} {P : Nat → Value → Prop} {OK : Heap → Prop}
theorem collect_kdl {Q : List Value → Shared → Prop} (K : KdlSrc prog w T r d n P OK) (hh : A.handled = none) (hok : OK s.heap) (hn : n ≤ sizeLine)
    (hQ : ∀ h' tk acc', (∀ b o, s.heap.get? b = some o → h'.get? b = some o) → ItemsOf P acc' n → Q acc'.toList { s with heap := h', toks := tk }) : wpAny (model prog w) A (collect (.ref r)) Q E s := by
  unfold collect
  refine wpAny_bind (wpAny_runValue (codeAny_builtin PySem.F.entry_proto_collect ?_))
  rw [Around.under_plainId PySem.F.plain_proto_collect _]
  show wpAny _ A.in1 (newList [] >>= fun l => again (.builtin "list.__iadd__" ⟨[l, .ref r], []⟩)) _ _ s
  refine wpAny_bind (wpAny_newObj_type ?_)
  refine wpAny_pure ⟨plainId_quiet PySem.F.plain_list_iadd _, codeAny_builtin PySem.F.entry_list_iadd ?_⟩
  rw [Around.under_plainId PySem.F.plain_list_iadd _]
  have hlt := K.there _ hok
  have hok1 : OK (s.heap.push { cls := .type "list", data := .seq ([] : List Value).toArray }) := K.keep _ _ hok fun b _ o e => Heap.get?_push_of_some _ e
  show wpAny _ A.in1 (Builtin.List.listExtendWith (.ref s.heap.objs.size) (.ref r) (.ref s.heap.objs.size)) _ _ _
  have hS : (s.heap.push { cls := .type "list", data := .seq ([] : List Value).toArray }).get? s.heap.objs.size = some { cls := .type "list", data := .seq #[] 0 } := Heap.get?_push_size _ rfl
  refine kdl_extend (R := fun r s' => match r with
    | .ok (.ret v) => wpAny (model prog w) A (match v with
      | .ref a => do
        let o ← load a
        match o.data with
        | .seq xs _ => pure xs.toList
        | _ => unsupported "internal:collect"
      | _ => unsupported "internal:collect") Q E s'
    | .ok _ => False
    | .error e => E e s') (s := { s with heap := s.heap.push { cls := .type "list", data := .seq ([] : List Value).toArray } }) K hh hok1 s.heap.objs.size (Nat.ne_of_gt hlt.1) (Nat.ne_of_gt hlt.2) (.ref s.heap.objs.size) 0 hS (fun h' tk acc' c' hk hS' hacc => ?_) hn
  show wpAny _ A (load s.heap.objs.size >>= _) _ _ _
  refine wpAny_bind (wpAny_load hS' ?_)
  refine wpAny_pure (hQ h' tk acc' (fun b o e => hk b o (Nat.ne_of_lt (Heap.lt_size e)) (Heap.get?_push_of_some _ e)) hacc)
theorem sorted_of_sort_kdl {kw : List (Str × Value)} {Q : Value → Shared → Prop} (K : KdlSrc prog w T r d n P OK) (hh : A.handled = none) (hok : OK s.heap) (hn : n ≤ sizeLine) (ha1 : argsOk "sorted" ⟨[.ref r], kw⟩) (ha2 : ∀ x, argsOk "list.sort" ⟨[.ref x], kw⟩)
    (body : ∀ (E' : Value → Shared → Prop) (h' : Heap) (tk : Nat) (acc : Array Value), (∀ b o, s.heap.get? b = some o → h'.get? b = some o) → ItemsOf P acc n →
      wpAny (model prog w) A.in1.in1 (Builtin.«list.sort» ⟨[.ref h'.objs.size], kw⟩) (fun f s' => f = .done (.ret .none) ∧ Q (.ref h'.objs.size) s') E' { s with heap := h'.push (seqObj "list" acc.toList.toArray 0), toks := tk }) :
    wpAny (model prog w) A (call (.builtin "sorted") [.ref r] kw) Q E s := by
  refine call_function_entry_kw kind_sorted plain_sorted entry_sorted ha1 ?_
  unfold Builtin.«sorted»
  refine wpAny_bind (m := checkCount "sorted" 1 1 _) (wpAny_pure ?_)
  refine wpAny_bind (collect_kdl K hh hok hn fun h' tk acc hk hacc => ?_)
  have hL : acc.toList.length ≤ sizeLine := by rw [Array.length_toList, hacc.1]; exact hn
  refine wpAny_bind (wpAny_newList ?_ hL)
  show wpAny _ _ _ _ _ { s with heap := h'.push (seqObj "list" acc.toList.toArray 0), toks := tk }
  refine wpAny_bind (wpAny_holding (wpAny_call_entry_kw slot_list_sort ⟨_, Heap.get?_push_size _ rfl, rfl⟩ entry_list_sort ?body (ha2 _)))
  case body =>
    show wpAny (model prog w) A.in1.in1 (Builtin.«list.sort» ⟨[.ref h'.objs.size], kw⟩) _ _ _
    refine wpAny_mono (body _ h' tk acc hk hacc) (fun f s' hf => ?_) fun _ _ e => e
    obtain ⟨rfl, hq⟩ := hf
    exact ⟨_, rfl, wpAny_pure ⟨_, rfl, hq⟩⟩
theorem acc_keys {raw : Array DictEntry} {acc : Array Value} (h : ItemsOf (fun i v => ∃ hi : i < raw.size, v = raw[i].key) acc raw.size) : acc.toList = raw.toList.map (·.key) := by
  refine List.ext_getElem? fun i => ?_
  rw [List.getElem?_map, Array.getElem?_toList, Array.getElem?_toList]
  by_cases hi : i < raw.size
  · have hi2 : i < acc.size := by rw [h.1]; exact hi
    obtain ⟨_, e⟩ := h.2 i _ (Array.getElem?_eq_getElem hi2)
    rw [Array.getElem?_eq_getElem hi2, Array.getElem?_eq_getElem hi, e]; rfl
  · rw [Array.getElem?_eq_none (by rw [h.1]; omega), Array.getElem?_eq_none (by omega)]; rfl
end
end MVX
namespace MV
open PySem L2 MVX
section
variable {X : Cx} {pins : List (Addr × Obj)} {σ : St} {H H' : Hp} {s : Shared} {O : List Addr}
theorem sortKf_at {a f : Addr} {xs : List V} {ds kz : List D} {its : List Value} {kd : Bool} {j : Nat} {fd : FuncData} {ps : List Str} {g : List D → R D} {Q : VK} {E' : Value → Shared → Prop} (I : Inv X pins σ H s) (ht : ∀ a ∈ O, H a ≠ none) (rv : Vals xs its) (hx : RpAll X.fr O H xs ds)
    (F : FnOk X.prog X.w X.K X.mg X.base (L2N.CX X.prog X.w) j f fd ps (spM X.fr X.mg [kd] false g)) (hr : Room (j + 2) X.A) (hb : Binds X.K fd ps [])
    (hlen : kz.length = ds.length) (hg : ∀ (i : Nat) (d k : D), ds[i]? = some d → kz[i]? = some k → g [d] = .ok k) (hal : PySem.W.AllAlike kz) (hsk : (∀ d, d ∈ kz → ∃ xs, d = .tuple xs) ∨ ∀ d, d ∈ kz → ∃ xs, d = .list xs) (hdp : ∀ d ∈ kz, shp 16 d = true)
    (hzi : its.length ≤ sizeLine) (ha : s.heap.objs.size = a)
    (q : ∀ H' p xs', Same H H' → H' p = none → RpAll X.fr O H' xs' (((ds.zip kz).mergeSort (PySem.W.dataLe false fun b : D × D => b.2)).map (·.1)) → Q (.ref p) (upd H' p (.lst xs'))) :
    wpAny (model X.prog X.w) X.A.in1.in1 (Builtin.«list.sort» ⟨[.ref a], [(Str.ofString "key", .ref f)]⟩) (fun fl s' => fl = .done (.ret .none) ∧ EP X pins σ Q (.ref a) s') E' { s with heap := s.heap.push (PyProof.Rows.seqObj "list" its.toArray 0) } := by
  have hil : its.length = ds.length := rv.length.symm.trans hx.length
  rw [PyProof.Rows.ksk_t1]
  have hna : H a = none := I.hok.fresh (Nat.le_of_eq ha)
  have ho : (s.heap.push (PyProof.Rows.seqObj "list" its.toArray 0)).get? a = some (PyProof.Rows.seqObj "list" its.toArray 0) := by rw [← ha]; exact Heap.get?_push_size _ rfl
  obtain ⟨e1, ho1⟩ : ∃ e1, ((s.heap.push (PyProof.Rows.seqObj "list" its.toArray 0)).update a (Obj.mapSeq fun _ => (#[] : Array Value))).get? a = some (PyProof.Rows.seqObj "list" #[] e1) := ⟨_, PyProof.Rows.get?_update_seq ho fun _ => #[]⟩
  unfold PyProof.Rows.ksk_tree
  refine wpAny_bind (PyProof.Rows.listItems_at ho rfl ?_)
  refine wpAny_bind (PyProof.Rows.listUpdate_at ho rfl ?_ (by rw [List.size_toArray]; exact hzi) (Nat.zero_le _))
  refine wpAny_bind (PyProof.Rows.seqEpoch_at ho1 rfl ?_)
  refine wpAny_bind (wpAny_newTuple ?_ (by show its.length ≤ _; exact hzi))
  refine wpAny_bind (wpAny_newList ?_ (Nat.zero_le _))
  refine wpAny_holding ?_
  generalize hkS : (((s.heap.push (PyProof.Rows.seqObj "list" its.toArray 0)).update a (Obj.mapSeq fun _ => (#[] : Array Value))).push { cls := .type "tuple", data := .seq its.toArray }).objs.size = kS
  have hka' : a < kS := by
    rw [← hkS, PyProof.Rows.size_push', Heap.size_update]
    exact Nat.lt_succ_of_lt (Heap.lt_size ho)
  have hka : kS ≠ a := Nat.ne_of_gt hka'
  have hage : s.heap.objs.size ≤ a := Nat.le_of_eq ha
  have hkge : s.heap.objs.size ≤ kS := Nat.le_trans hage (Nat.le_of_lt hka')
  have I3 : Inv X pins σ H { s with heap := PySem.W.sortingHeap (s.heap.push (PyProof.Rows.seqObj "list" its.toArray 0)) a its } := I.kept (t' := s.toks) fun b o e => PySem.W.sortingHeap_old (Nat.ne_of_lt (by rw [← ha]; exact Heap.lt_size e)) (Heap.get?_push_of_some _ e)
  unfold PyProof.Rows.ksk_rest
  refine wpAny_bind (wpAny_rule ?_)
  rw [← Array.forIn_toList]
  simp only [List.toList_toArray]
  have nk3 : (PySem.W.sortingHeap (s.heap.push (PyProof.Rows.seqObj "list" its.toArray 0)) a its).get? kS = some (PyProof.Rows.seqObj "list" #[] 0) := by rw [← hkS]; exact Heap.get?_push_size _ rfl
  have na3 : (PySem.W.sortingHeap (s.heap.push (PyProof.Rows.seqObj "list" its.toArray 0)) a its).get? a = some (PyProof.Rows.seqObj "list" #[] e1) := Heap.get?_push_of_some _ (Heap.get?_push_of_some _ ho1)
  have fa : ∀ {H'' : Hp}, H'' a = none → FpOk X pins H'' a := fun h => I.fpOk hage h
  have fk : ∀ {H'' : Hp}, H'' kS = none → FpOk X pins H'' kS := fun h => I.fpOk hkge h
  refine wpAny_bind (PyProof.Rows.ksk_fold (fun i s' => ∃ H' kA e xk, Inv X pins σ H' s' ∧ Same H H' ∧ s'.heap.get? kS = some (PyProof.Rows.seqObj "list" kA e) ∧ s'.heap.get? a = some (PyProof.Rows.seqObj "list" #[] e1) ∧ H' kS = none ∧ H' a = none ∧ Vals xk kA.toList ∧ RpAll X.fr O H' xk (kz.take i)) its 0 _
    ⟨H, #[], 0, [], I3, Same.refl, nk3, na3, I.hok.fresh hkge, hna, .nil, by rw [List.take_zero]; exact .nil⟩ ?step ?done)
  case step =>
    rintro i u s1 hu ⟨H1, kA, e, xk, I1, sm, nk, na, hk0, ha0, rk, hk⟩
    simp only [Nat.zero_add] at hk ⊢
    have hi : i < its.length := (List.getElem?_eq_some_iff.mp hu).1
    obtain ⟨k, hkj⟩ : ∃ k, kz[i]? = some k := ⟨_, List.getElem?_eq_getElem (by omega)⟩
    obtain ⟨d, hdj⟩ : ∃ d, ds[i]? = some d := ⟨_, List.getElem?_eq_getElem (by omega)⟩
    obtain ⟨x, hxj, rx⟩ := (hx.same sm).get hdj
    have rxu : RelV x u := by
      obtain ⟨u', hu', r⟩ := rv.get hxj
      rw [hu] at hu'; cases hu'; exact r
    have Ip : Inv X ((kS, PyProof.Rows.seqObj "list" kA e) :: (a, PyProof.Rows.seqObj "list" #[] e1) :: pins) σ H1 s1 := I1.pins_of fun p hp => by
      rcases List.mem_cons.mp hp with rfl | hp
      · exact ⟨nk, hk0, (fk hk0).2.1, (fk hk0).2.2.1, fun v => by intro z; cases z⟩
      · rcases List.mem_cons.mp hp with rfl | hp
        · exact ⟨na, ha0, (fa ha0).2.1, (fa ha0).2.2.1, fun v => by intro z; cases z⟩
        · exact I1.pin p (List.mem_append_right _ hp)
    have hz2 : kA.size ≤ its.length := by
      have h1 := hk.length
      rw [rk.length, Array.length_toList, List.length_take] at h1
      omega
    refine wpAny_bind (wpAny_attempt (wpAny_mono (def_call F (hr.in1.in1) Ip.env0.in1.in1 hb Ip (vs := [x]) (.cons rxu .nil) (Q := fun v H2 => Same H1 H2 ∧ Rp X.fr O H2 v k) ⟨O, [d], fun b hb' => by
      have := ht b hb'
      cases q0 : H b with
      | none => exact absurd q0 this
      | some o => rw [sm b o q0]; simp, ⟨by cases kd <;> first | exact rx | exact .inl rx, trivial⟩, ?_⟩) (fun ku s2 he => ?_) fun _ _ hF => hF.elim))
    · rw [hg i d k hdj hkj]
      exact fun v H' s1 r1 => ⟨s1, r1⟩
    obtain ⟨kv, H2, I2, rv2, sm2, rp2⟩ := he
    obtain ⟨nk2, hk2, _⟩ := I2.pin _ (List.mem_append_right _ (.head _))
    obtain ⟨na2, ha2, _⟩ := I2.pin _ (List.mem_append_right _ (.tail _ (.head _)))
    have I2' : Inv X pins σ H2 s2 := I2.pins_of fun p hp => I2.pin p (List.mem_append_right _ (.tail _ (.tail _ hp)))
    try dsimp only
    have s1u := Heap.SameBut.update s2.heap kS (Obj.mapSeq (·.push ku))
    obtain ⟨c2, hc2⟩ : ∃ c2, (s2.heap.update kS (Obj.mapSeq (·.push ku))).get? kS = some (PyProof.Rows.seqObj "list" (kA.push ku) c2) := ⟨_, PyProof.Rows.get?_update_seq nk2 (·.push ku)⟩
    refine wpAny_bind (PyProof.Rows.listUpdate_at nk2 rfl ?_ (Nat.le_trans hz2 hzi) (Nat.le_trans (Nat.le_of_eq (Array.size_push ..)) (Nat.succ_le_succ (Nat.le_trans hz2 hzi))))
    have I3' : Inv X pins σ H2 { s2 with heap := s2.heap.update kS (Obj.mapSeq (·.push ku)), toks := s2.toks } := I2'.turnedL (ch := [kS]) (fun b o hb e => (s1u.2 b (fun z => hb (by simp [z]))).trans e) fun b hb => by
      have : b = kS := by simpa using hb
      subst this; exact fk hk2
    have ek : kz.take (i + 1) = kz.take i ++ [k] := by rw [List.take_add_one, hkj]; simp
    refine wpAny_pure ⟨rfl, H2, kA.push ku, c2, xk ++ [kv], I3', Same.tr sm sm2, hc2, (s1u.2 a hka.symm).trans na2, hk2, ha2, ?_, ?_⟩
    · rw [Array.toList_push]
      exact rk.append (.cons rv2 .nil)
    · rw [ek]
      exact (hk.same sm2).append (.one rp2)
  case done =>
    rintro s1 ⟨H1, kA, e, xk, I1, sm, nk, na, hk0, ha0, rk, hk⟩
    rw [show kz.take (0 + its.length) = kz from List.take_of_length_le (by omega)] at hk
    have hrd := each_reads I1 hdp rk hk
    have hsz : kA.size = its.length := by
      have h1 := hk.length
      rw [rk.length, Array.length_toList] at h1
      omega
    try dsimp only
    refine wpAny_bind (PyProof.Rows.listItems_at nk rfl ?_)
    obtain ⟨G, g1, g2⟩ := L2.restrict s1.heap (fun b => decide (b ≠ kS))
    have gk : G.get? kS = none := g2 kS (by simp)
    have gb : ∀ b, b ≠ kS → G.get? b = s1.heap.get? b := fun b hb => g1 b (by simp [hb])
    have hun : ∀ d, d ∈ kz → X.A.in1.in1.units + d.depth < cLine := fun d hd => by
      have := shp_depth 16 d (hdp d hd)
      have := hr.un
      show X.A.units + 1 + 1 + d.depth < _
      omega
    refine PySem.W.keyH_end (κ := PySem.W.dataKind s1.heap kz) (h₁ := G) (fun b o hb e => ?_) gk nk na hka (hsk.elim (fun hsk => MV.T.SortsAt_tups (s := s1) hrd hal hsk hun) fun hsk => PySem.W.SortsAt.data (s := s1) hrd hal (.inr fun d hd => by obtain ⟨xs, rfl⟩ := hsk d hd; exact ⟨by simp, by simp⟩) hun) hsz hzi fun h4 tk4 c k4 n4 => ?_
    · have hbk : b ≠ kS := fun z => by rw [z, gk] at e; cases e
      rw [gb b hbk] at e; exact e
    · have I4 : Inv X pins σ H1 { s1 with heap := h4, toks := tk4 } := I1.turnedL (ch := [a, kS]) (fun b o hb e => by
        simp only [List.mem_cons, List.not_mem_nil, or_false, not_or] at hb
        exact k4 b o hb.1 ((gb b hb.2).trans e)) fun b hb => by
        simp only [List.mem_cons, List.not_mem_nil, or_false] at hb
        rcases hb with rfl | rfl
        · exact fa ha0
        · exact fk hk0
      have e2 : (ds.zip kz).map (·.2) = kz := List.map_snd_zip (by omega)
      have e1' : (ds.zip kz).map (·.1) = ds := List.map_fst_zip (by omega)
      have hout := PySem.W.keyedOut_each (rev := false) (R := fun v (b : D × D) => ∃ x, RelV x v ∧ Rp X.fr O H1 x b.1) (bs := ds.zip kz) (vs := its) (out := PySem.W.sortVals (PySem.W.dataKind s1.heap kz) false kA.toList its) (fun b => b.2) ⟨s1.heap, kA.toList, by rw [e2]; exact hal, by rw [e2], by rw [e2]; exact hrd⟩ (each_of rv (by rw [e1']; exact hx.same sm))
      obtain ⟨xs', rs', hs'⟩ := of_each (f := fun b : D × D => b.1) hout
      have hlen' : xs'.length ≤ sizeLine := by
        rw [hs'.length, List.length_map, (List.mergeSort_perm _ _).length_eq, List.length_zip]
        omega
      exact ⟨rfl, .ref a, upd H1 a (.lst xs'), inv_track I4 (fa ha0) (Nat.le_trans I.sz hage) ⟨hlen', _, c, rs', n4⟩, rfl, q H1 a xs' sm ha0 hs'⟩
end
theorem keys_vals {F : Fr} : ∀ {es : List (PyData × V × V)} {rs : List DictEntry}, Paired (fun (e : PyData × V × V) (r : DictEntry) => RelV e.2.1 r.key ∧ RelV e.2.2 r.val ∧ r.hash = (keyN e.1).hash F.w) es rs → Vals (es.map (·.2.1)) (rs.map (·.key))
  | _, _, .nil => .nil
  | _, _, .cons h t => .cons h.1 (keys_vals t)
theorem keys_rp {K : Fr} {O : List Addr} {H : Hp} : ∀ {vs : List (PyData × V × V)} {kvs : List (D × D)}, RpKv K O H vs kvs → RpAll K O H (vs.map (·.2.1)) (kvs.map (·.1))
  | _, [], h => by cases h; exact .nil
  | _, _ :: _, h => by cases h with | cons _ h1 _ h3 => exact .cons h1 (keys_rp h3)
section
variable {X : Cx}
def rListE (F : Fr) : List V → Hp → VK → Prop := fun xs H Q => ∃ p es, xs = [.ref p] ∧ H p = some (dR F p es) ∧ ∀ l, H l = none → Q (.ref l) (upd H l (.lst (es.map (·.2.1))))
theorem call_listDct (hc : X.calm = true) : CallR X (.type "list") (rListE X.fr) := by
  intro pins s σ H xs us Q I r ⟨p, es, e, hp, q⟩
  subst e
  rw [Vals.ref1 r]
  obtain ⟨hz, hm, hnd, o, raw, ep, ho, hx, hdat, hpr⟩ := dr_get I hp
  have hl : raw.size = es.length := by rw [← Array.length_toList]; exact (Paired.length hpr).symm
  refine PySem.W.kdl_call (PySem.KdlSrc.rawDict (es := raw) (ep := ep) hm) (I.ok.hd hc) ⟨o, ho, hx, hdat⟩ (by omega) fun h' tk acc' c' hk hS hacc => ?_
  refine ⟨.ref _, upd H s.heap.objs.size (.lst (es.map (·.2.1))), I.laid (t' := tk) hk (Nat.le_refl _) ⟨by rw [List.length_map]; exact hz, acc'.toList, c', ?_, hS⟩, rfl, q _ (I.hok.fresh (Nat.le_refl _))⟩
  rw [acc_keys hacc]
  exact keys_vals hpr
/-- list(d) -/
def lstDF : List D → R D
  | [.dict kvs] => okIf (!isOb kvs) (.list (kvs.map (·.1)))
  | _ => .stuck
theorem lstDF_e {kvs : List (D × D)} (no : isOb kvs = false) : lstDF [.dict kvs] = .ok (.list (kvs.map (·.1))) := by
  show okIf (!isOb kvs) _ = _
  rw [no]; rfl
theorem nox_lstD : NoXl lstDF := by intro ds n; unfold lstDF; split <;> simp
theorem rc_lstD : RCO X (rListE X.fr) lstDF [true] := by
  intro O H vs ds d Q ht h e q
  obtain ⟨v, d', rfl, rfl, r⟩ := rpk1 h
  cases d' <;> simp only [lstDF] at e <;> try cases e
  obtain ⟨c, rfl⟩ := okIf_ok e
  obtain ⟨p, es, rfl, h1, h2⟩ := r.dict (by simpa using c)
  exact ⟨p, es, rfl, h1, fun l hl => q _ _ (same_upd hl) (.inr ⟨l, rfl, hl, new_own hl (keys_rp h2)⟩)⟩
end
section
variable {X : Cx} {pins : List (Addr × Obj)} {σ : St} {H H' : Hp} {s : Shared} {O : List Addr}
theorem sortKfD_run {l f : Addr} {es : List (PyData × V × V)} {ds kz : List D} {kd : Bool} {j : Nat} {fd : FuncData} {ps : List Str} {g : List D → R D} {Q : VK} (hc : X.calm = true) (I : Inv X pins σ H s) (ht : ∀ a ∈ O, H a ≠ none) (hs : H l = some (dR X.fr l es)) (hx : RpAll X.fr O H (es.map (·.2.1)) ds)
    (F : FnOk X.prog X.w X.K X.mg X.base (L2N.CX X.prog X.w) j f fd ps (spM X.fr X.mg [kd] false g)) (hr : Room (j + 2) X.A) (hb : Binds X.K fd ps [])
    (hlen : kz.length = ds.length) (hg : ∀ (i : Nat) (d k : D), ds[i]? = some d → kz[i]? = some k → g [d] = .ok k) (hal : PySem.W.AllAlike kz) (hsk : (∀ d, d ∈ kz → ∃ xs, d = .tuple xs) ∨ ∀ d, d ∈ kz → ∃ xs, d = .list xs) (hdp : ∀ d ∈ kz, shp 16 d = true)
    (q : ∀ H' p xs', Same H H' → H' p = none → RpAll X.fr O H' xs' (((ds.zip kz).mergeSort (PySem.W.dataLe false fun b : D × D => b.2)).map (·.1)) → Q (.ref p) (upd H' p (.lst xs'))) :
    wpAny (model X.prog X.w) X.A (call (.builtin "sorted") [.ref l] [(Str.ofString "key", .ref f)]) (EP X pins σ Q) X.xe s := by
  obtain ⟨hz, hm, hnd, o, raw, ep, ho, hxd, hdat, hpr⟩ := dr_get I hs
  have hl : raw.size = es.length := by rw [← Array.length_toList]; exact (Paired.length hpr).symm
  refine sorted_of_sort_kdl (PySem.KdlSrc.rawDict (es := raw) (ep := ep) hm) (I.ok.hd hc) ⟨o, ho, hxd, hdat⟩ (by omega) (PyProof.Rows.ksk_s1 _ _) (fun _ => PyProof.Rows.ksk_l1 _ _) fun E' h' tk acc hk hacc => ?_
  have I1 : Inv X pins σ H { s with heap := h', toks := tk } := I.kept (t' := tk) hk
  have rv : Vals (es.map (·.2.1)) acc.toList := by rw [acc_keys hacc]; exact keys_vals hpr
  exact sortKf_at (s := { s with heap := h', toks := tk }) I1 ht rv hx F hr hb hlen hg hal hsk hdp (by rw [Array.length_toList, hacc.1]; omega) rfl q
end
def dkeysR : D → R D
  | .dict kvs => okIf (!isOb kvs) (.list (kvs.map (·.1)))
  | _ => .stuck
/-- sorted(d, key=f), f's keys lists -/
def sortKLDd (g : List D → R D) (d : D) : R D := (dkeysR d).bind (sortKLD g)
section
variable {X : Cx} {W : WX} {B Ω : List Nat} {k : Nat} {e : Expr} {ge : Env → R D} {pos p : Pos} {nm : Str} {f : Addr} {fd : FuncData} {ps : List Str} {g : List D → R D} {j : Nat} {kd : Bool}
def rSortKfLD (X : Cx) (f : Addr) (g : List D → R D) : List V → List V → Hp → VK → Prop := fun vs zs H Q => ∃ (l : Addr) (es : List (PyData × V × V)) (ds kz : List D) (O : List Addr), vs = [.ref l] ∧ zs = [.ref f] ∧ (∀ a ∈ O, H a ≠ none) ∧ H l = some (dR X.fr l es) ∧ RpAll X.fr O H (es.map (·.2.1)) ds ∧ keysO g ds = some kz ∧ keysOkL kz = true ∧
  ∀ H' p xs', Same H H' → H' p = none → RpAll X.fr O H' xs' (((ds.zip kz).mergeSort (PySem.W.dataLe false fun b : D × D => b.2)).map (·.1)) → Q (.ref p) (upd H' p (.lst xs'))
theorem cr_sortKfLD (hc : X.calm = true) (F : FnOk X.prog X.w X.K X.mg X.base (L2N.CX X.prog X.w) j f fd ps (spM X.fr X.mg [kd] false g)) (hr : Room (j + 2) X.A) (hb : Binds X.K fd ps []) : CallRK X (.builtin "sorted") [Str.ofString "key"] (rSortKfLD X f g) := by
  intro pins s σ H vs zs us ws Q I r rz h
  obtain ⟨l, es, ds, kz, O, rfl, rfl, ht, hs, hx, hk, hok, q⟩ := h
  obtain rfl := Vals.ref1 r
  obtain rfl := Vals.ref1 rz
  simp only [keysOkL, Bool.and_eq_true, List.all_eq_true, decide_eq_true_eq] at hok
  refine sortKfD_run hc I ht hs hx F hr hb (keysO_len hk) (keysO_get hk) (fun d hd d' hd' => hok.1.1 d hd d' hd') (.inr fun d hd => ?_) hok.2 q
  have := hok.1.2 d hd
  unfold lstB at this
  split at this
  · exact ⟨_, rfl⟩
  · cases this
theorem po_sortKfLD {kpos p2 : Pos} (G : Gd X W k) (C : DefOk X.prog X.w X.K X.mg X.base nm f fd ps [kd] false g j) (hj : Nat.ble (j + 2) k = true) (hg : Gl X "sorted") (hm : X.mg "sorted" = none) (hgf : Gl X nm) (he : PB X W B Ω e ge)
    (hdb : (nm == ("__debug__" : Str)) = false := by decide) (hs : starEach [e] X.env = (false, eval e X.env) :: starEach [] X.env := by rfl)
    (he2 : backTo pos (starEach [e] X.env) = (false, eval e X.env) :: backTo pos (starEach [] X.env) := by rfl) (hpl : (backTo pos (starEach [e] X.env)).any (·.1) = false := by rfl)
    (hall : (backToKw pos (keywordEach [⟨some "key", .Name nm p2, kpos⟩] X.env)).all (·.1.isSome) = true := by rfl) (hnone : (backToKw pos (keywordEach [⟨some "key", .Name nm p2, kpos⟩] X.env)).any (·.1.isNone) = false := by rfl)
    (hks : (backToKw pos (keywordEach [⟨some "key", .Name nm p2, kpos⟩] X.env)).filterMap (·.1) = [Str.ofString "key"] := by rfl) :
    PO X W B Ω (.Call (.Name "sorted" p) [e] [⟨some "key", .Name nm p2, kpos⟩] pos) (x1 (sortKLDd g) ge) :=
  PE.imp (pe_callBK (cr_sortKfLD G.hc C.F (G.hr.mono (Nat.le_of_ble_eq_true hj)) C.b) hg hm (by decide +kernel) (pa_cons he pa_nil hs) (pk_cons (pe_glob hgf C.m (v := .ref f) rfl hdb) pk_nil) (by decide) (by decide) he2 hpl hall hnone hks) fun σ H Q ⟨H0, O0, O, ρ, S, h⟩ => ⟨H0, O0, O, ρ, S, Good.bind (f := sortKLDd g) h fun d v H1 e s1 r1 h1 => by
    cases d <;> first | exact h1.elim | skip
    rename_i kvs
    cases no : isOb kvs with
    | true => rw [show sortKLDd g (.dict kvs) = (okIf (!isOb kvs) (.list (kvs.map (·.1)))).bind (sortKLD g) from rfl, no] at h1; exact h1.elim
    | false =>
    rw [show sortKLDd g (.dict kvs) = (okIf (!isOb kvs) (.list (kvs.map (·.1)))).bind (sortKLD g) from rfl, no] at h1
    simp only [okIf, Bool.not_false, if_true, R.bind_ok, sortKLD] at h1
    split at h1
    · rename_i kz hkz
      obtain ⟨p, es, rfl, h2, h3⟩ := r1.dict no
      obtain ⟨z, ez⟩ := h1.ok_of fun n hn => by split at hn <;> cases hn
      rw [ez] at h1
      obtain ⟨c, rfl⟩ : keysOkL kz = true ∧ _ = z := by
        split at ez
        · rename_i c; cases ez; exact ⟨c, rfl⟩
        · cases ez
      exact ⟨p, es, _, kz, O, rfl, rfl, (S.same s1).trk, h2, keys_rp h3, hkz, c, fun H' q xs' sm hq hx => h1 _ _ (Same.tr sm (same_upd hq)) (.inr ⟨q, rfl, free_back (Same.tr s1 sm) hq, new_own hq hx⟩)⟩
    · exact h1.elim⟩
end
end MV

set_option Elab.async false
set_option linter.all false
set_option maxRecDepth 100000
set_option maxHeartbeats 4000000
namespace MV
open PySem L2
/-! ### a loop whose body is d.setdefault(K, []).append(V), d an own empty dict -/
inductive OKv (K : Fr) (H0 : Hp) (q : Addr) (O : List Addr) (H : Hp) : Ens → List (D × D) → Prop
  | nil : OKv K H0 q O H [] []
  | cons {k : D} {x : V} {a : Addr} {xs : List V} {dd : List D} {vs : Ens} {kvs : List (D × D)} : kyb 8 k = true → Rp K O H x k → H a = some (.lst xs) → RpAll K O H xs dd → a ∈ O → a ≠ q → H0 a = none → (∀ e ∈ vs, e.2.2 ≠ .ref a) → (∀ e ∈ kvs, keyN e.1 ≠ keyN k) → OKv K H0 q O H vs kvs →
      OKv K H0 q O H ((k, x, .ref a) :: vs) ((k, .list dd) :: kvs)
section
variable {K : Fr} {H0 : Hp} {q : Addr} {O : List Addr} {H H' : Hp} {es : Ens} {kvs : List (D × D)}
theorem OKv.kv (h : OKv K H0 q O H es kvs) : RpKv K [] H es kvs := by
  induction h with
  | nil => exact .nil
  | cons h0 h1 h2 h3 h4 h5 h6 h7 h8 h9 ih => exact .cons h0 (h1.sub (by simp)) (.lst ⟨by simp, .inl h2⟩ (h3.sub (by simp))) ih
theorem OKv.same (s : Same H H') (h : OKv K H0 q O H es kvs) : OKv K H0 q O H' es kvs := by
  induction h with
  | nil => exact .nil
  | cons h0 h1 h2 h3 h4 h5 h6 h7 h8 h9 ih => exact .cons h0 (h1.same s) (s _ _ h2) (h3.same s) h4 h5 h6 h7 h8 ih
theorem OKv.fresh {p : Addr} (hp : H p = none) (h : OKv K H0 q O H es kvs) : OKv K H0 q (p :: O) H es kvs := by
  induction h with
  | nil => exact .nil
  | cons h0 h1 h2 h3 h4 h5 h6 h7 h8 h9 ih => exact .cons h0 (h1.fresh hp) h2 (h3.fresh hp) (List.mem_cons_of_mem _ h4) h5 h6 h7 h8 ih
/-- a change of an own thing that is none of the lists -/
theorem OKv.upd {p : Addr} {o : HO} (hp : p ∈ O) (hn : ∀ e ∈ es, e.2.2 ≠ .ref p) (h : OKv K H0 q O H es kvs) : OKv K H0 q O (upd H p o) es kvs := by
  induction h with
  | nil => exact .nil
  | @cons k x a xs dd vs kvs h0 h1 h2 h3 h4 h5 h6 h7 h8 h9 ih =>
    have ne : a ≠ p := fun z => hn _ List.mem_cons_self (by rw [z])
    exact .cons h0 (h1.ge (ge_upd hp)) (by rw [upd_ne ne]; exact h2) (h3.ge (ge_upd hp)) h4 h5 h6 h7 h8 (ih fun e he => hn e (List.mem_cons_of_mem _ he))
theorem OKv.mem (h : OKv K H0 q O H es kvs) : ∀ e ∈ es, ∃ a, e.2.2 = .ref a ∧ a ∈ O ∧ a ≠ q ∧ H0 a = none ∧ ∃ o, H a = some o := by
  induction h with
  | nil => simp
  | @cons k x a xs dd vs kvs h0 h1 h2 h3 h4 h5 h6 h7 h8 h9 ih =>
    intro e he
    rcases List.mem_cons.mp he with rfl | he
    · exact ⟨a, rfl, h4, h5, h6, _, h2⟩
    · exact ih e he
theorem OKv.snoc {k : D} {x : V} {a : Addr} {xs : List V} {dd : List D} (h0 : kyb 8 k = true) (h1 : Rp K O H x k) (h2 : H a = some (.lst xs)) (h3 : RpAll K O H xs dd) (h4 : a ∈ O) (h5 : a ≠ q) (h6 : H0 a = none) (h7 : ∀ e ∈ es, e.2.2 ≠ .ref a) (h8 : ∀ e ∈ kvs, keyN e.1 ≠ keyN k) (h : OKv K H0 q O H es kvs) :
    OKv K H0 q O H (es ++ [(k, x, .ref a)]) (kvs ++ [(k, .list dd)]) := by
  induction h with
  | nil => exact .cons h0 h1 h2 h3 h4 h5 h6 (by simp) (by simp) .nil
  | @cons k' x' a' xs' dd' vs kvs g0 g1 g2 g3 g4 g5 g6 g7 g8 g9 ih =>
    refine .cons g0 g1 g2 g3 g4 g5 g6 (fun e he => ?_) (fun e he => ?_) (ih (fun e he => h7 e (List.mem_cons_of_mem _ he)) fun e he => h8 e (List.mem_cons_of_mem _ he))
    · rcases List.mem_append.mp he with he | he
      · exact g7 e he
      · rw [List.mem_singleton.mp he]
        exact fun z => h7 _ List.mem_cons_self z.symm
    · rcases List.mem_append.mp he with he | he
      · exact g8 e he
      · rw [List.mem_singleton.mp he]
        exact fun z => h8 _ List.mem_cons_self z.symm
def rpl (kvs : List (D × D)) (k d : D) : List (D × D) := kvs.map fun q => if keyN q.1 = keyN k then (q.1, d) else q
theorem rpl_keys (kvs : List (D × D)) (k d : D) : ∀ e ∈ rpl kvs k d, ∃ e' ∈ kvs, e'.1 = e.1 := by
  intro e he
  obtain ⟨e', h, rfl⟩ := List.mem_map.mp he
  refine ⟨e', h, ?_⟩
  split <;> rfl
theorem rpl_none {kvs : List (D × D)} {k d : D} (h : ∀ e ∈ kvs, keyN e.1 ≠ keyN k) : rpl kvs k d = kvs := by
  unfold rpl
  conv => rhs; rw [← List.map_id kvs]
  exact List.map_congr_left fun e he => if_neg (h e he)
theorem OKv.found {k : D} {v : V} (h : OKv K H0 q O H es kvs) (hl : lookE es k = some v) : ∃ (a : Addr) (xs : List V) (dd : List D), v = .ref a ∧ (∃ e ∈ es, e.2.2 = .ref a) ∧ dGet kvs k = some (.list dd) ∧ H a = some (.lst xs) ∧ RpAll K O H xs dd ∧ a ∈ O ∧ H0 a = none ∧
    ∀ y d, Rp K O H y d → OKv K H0 q O (L2.upd H a (.lst (xs ++ [y]))) es (rpl kvs k (.list (dd ++ [d]))) := by
  induction h with
  | nil => simp [lookE] at hl
  | @cons k' x' a' xs' dd' vs kvs g0 g1 g2 g3 g4 g5 g6 g7 g8 g9 ih =>
    by_cases hk : keyN k' = keyN k
    · have e : v = .ref a' := by
        simp [lookE, List.find?_cons, hk] at hl
        exact hl.symm
      subst e
      refine ⟨a', xs', dd', rfl, ⟨_, List.mem_cons_self, rfl⟩, by simp [dGet, List.find?_cons, hk], g2, g3, g4, g6, fun y d r => ?_⟩
      have hno : ∀ e ∈ kvs, keyN e.1 ≠ keyN k := fun e he => by rw [← hk]; exact g8 e he
      have er : rpl ((k', .list dd') :: kvs) k (.list (dd' ++ [d])) = (k', .list (dd' ++ [d])) :: kvs := by
        show (if keyN k' = keyN k then _ else _) :: rpl kvs k _ = _
        rw [if_pos hk, rpl_none hno]
      rw [er]
      have ge : Ge O H (L2.upd H a' (.lst (xs' ++ [y]))) := ge_upd g4
      exact .cons g0 (g1.ge ge) upd_same ((g3.ge ge).append (RpAll.one (r.ge ge))) g4 g5 g6 g7 g8 (g9.upd g4 g7)
    · have e1 : lookE ((k', x', .ref a') :: vs) k = lookE vs k := by simp [lookE, List.find?_cons, hk]
      rw [e1] at hl
      obtain ⟨a, xs, dd, e, ⟨e0, m0, m1⟩, e2, e3, e4, e5, e6, e7⟩ := ih hl
      have ne : a' ≠ a := fun z => g7 e0 m0 (by rw [m1, z])
      refine ⟨a, xs, dd, e, ⟨e0, List.mem_cons_of_mem _ m0, m1⟩, by rw [← e2]; simp [dGet, List.find?_cons, hk], e3, e4, e5, e6, fun y d r => ?_⟩
      have er : rpl ((k', .list dd') :: kvs) k (.list (dd ++ [d])) = (k', .list dd') :: rpl kvs k (.list (dd ++ [d])) := by
        show (if keyN k' = keyN k then _ else _) :: rpl kvs k _ = _
        rw [if_neg hk]
      rw [er]
      have ge : Ge O H (L2.upd H a (.lst (xs ++ [y]))) := ge_upd e5
      refine .cons g0 (g1.ge ge) (by rw [upd_ne ne]; exact g2) (g3.ge ge) g4 g5 g6 g7 (fun u hu => ?_) (e7 y d r)
      obtain ⟨u', hu', eu⟩ := rpl_keys _ _ _ u hu
      rw [← eu]; exact g8 u' hu'
theorem look_none {k : D} (h : lookE es k = none) : ∀ e ∈ es, keyN e.1 ≠ keyN k := by
  intro e he z
  unfold lookE at h
  rw [Option.map_eq_none_iff, List.find?_eq_none] at h
  exact h e he (decide_eq_true z)
theorem OKv.keys (h : OKv K H0 q O H es kvs) : kvs.map (·.1) = es.map (·.1) := by
  induction h with
  | nil => rfl
  | cons _ _ _ _ _ _ _ _ _ _ ih => simp [ih]
theorem OKv.give {O' : List Addr} (h : OKv K H0 q O H es kvs) (hs : ∀ a ∈ O', a ∈ O) (hn : ∀ e ∈ es, ∀ a, e.2.2 = .ref a → a ∉ O') : RpKv K O' H es kvs := by
  induction h with
  | nil => exact .nil
  | @cons k x a xs dd vs kvs h0 h1 h2 h3 h4 h5 h6 h7 h8 h9 ih => exact .cons h0 (h1.sub hs) (.lst ⟨hn _ List.mem_cons_self a rfl, .inl h2⟩ (h3.sub hs)) (ih fun e he => hn e (List.mem_cons_of_mem _ he))
end
section
variable {K : Fr} {H0 : Hp} {O0 : List Addr} {B : List Nat} {i : Nat} {O : List Addr} {H H' : Hp} {σ : St} {ρ : Env}
theorem Stt.off (S : Stt K H0 O0 B [i] O H σ ρ) : Stt K H0 O0 B [i] O H σ (ρ.set i none) where
  keep := S.keep
  trk0 := S.trk0
  sub := S.sub
  trk := S.trk
  fz := fun j d e h1 h2 => by
    have : i ≠ j := fun z => h1 (by rw [z]; exact List.mem_singleton.mpr rfl)
    rw [List.getElem?_set_ne this] at e
    exact S.fz j d e h1 h2
  bor := fun j d e h1 h2 => by
    have : i ≠ j := fun z => h1 (by rw [z]; exact List.mem_singleton.mpr rfl)
    rw [List.getElem?_set_ne this] at e
    exact S.bor j d e h1 h2
  ow := fun j d e h1 => by
    have := List.mem_singleton.mp h1
    subst this
    obtain ⟨hl, _⟩ := List.getElem?_eq_some_iff.mp e
    rw [List.getElem?_set_self (by simpa using hl)] at e
    cases e
  dist := fun j hj l hl hne => absurd ((List.mem_singleton.mp hj).trans (List.mem_singleton.mp hl).symm) hne
  len := by simp [S.len]
theorem Stt.updq {p : Addr} {o : HO} (S : Stt K H0 O0 B [i] O H σ ρ) (hi : ρ[i]? = some none) (hp : p ∈ O) (h0 : H0 p = none) : Stt K H0 O0 B [i] O (upd H p o) σ ρ where
  keep := fun a u e => by
    have : a ≠ p := fun z => by rw [z, h0] at e; cases e
    rw [upd_ne this]; exact S.keep a u e
  trk0 := S.trk0
  sub := S.sub
  trk := fun a ha => by
    by_cases h : a = p
    · subst h; rw [upd_same]; simp
    · rw [upd_ne h]; exact S.trk a ha
  fz := fun j d e h1 h2 => let ⟨v, e', r⟩ := S.fz j d e h1 h2; ⟨v, e', r.ge (ge_upd hp)⟩
  bor := fun j d e h1 h2 => let ⟨v, e', r⟩ := S.bor j d e h1 h2; ⟨v, e', r.ge Same.refl (ge_upd hp)⟩
  ow := fun j d e h1 => by
    have := List.mem_singleton.mp h1
    subst this
    rw [hi] at e; cases e
  dist := S.dist
  len := S.len
theorem Stt.addO {p : Addr} (S : Stt K H0 O0 B [i] O H σ ρ) (hi : ρ[i]? = some none) (hp : H p = none) {o : HO} : Stt K H0 O0 B [i] (p :: O) (upd H p o) σ ρ := by
  have s : Same H (upd H p o) := same_upd hp
  have S' := S.same s
  exact ⟨S'.keep, S.trk0, fun a ha => List.mem_cons_of_mem _ (S.sub a ha), fun a ha => by
      rcases List.mem_cons.mp ha with rfl | ha
      · rw [upd_same]; simp
      · exact S'.trk a ha,
    fun j d e h1 h2 => let ⟨v, e', r⟩ := S.fz j d e h1 h2; ⟨v, e', (r.fresh hp).same s⟩,
    fun j d e h1 h2 => let ⟨v, e', r⟩ := S.bor j d e h1 h2; ⟨v, e', (r.fresh hp).ge Same.refl (Ge.of_same s)⟩,
    fun j d e h1 => (by
      have := List.mem_singleton.mp h1
      subst this
      rw [hi] at e; cases e), S.dist, S.len⟩
/-- the dict is an own thing again -/
theorem Stt.onQ {O' : List Addr} {q : Addr} {d : D} (S : Stt K H0 O0 B [i] O H σ ρ) (hi : ρ[i]? = some none) (hB : i ∉ B) (hs : ∀ a ∈ O', a ∈ O) (h0 : ∀ a ∈ O0, a ∈ O') (hq : σ[i]? = some (some (.ref q))) (hqO : q ∈ O') (hq0 : H0 q = none) (w : OwnAt K O' H q d) : Stt K H0 O0 B [i] O' H σ (ρ.set i (some d)) where
  keep := S.keep
  trk0 := S.trk0
  sub := h0
  trk := fun a ha => S.trk a (hs a ha)
  fz := fun j e h1 h2 h3 => by
    have : i ≠ j := fun z => h2 (by rw [z]; exact List.mem_singleton.mpr rfl)
    rw [List.getElem?_set_ne this] at h1
    obtain ⟨v, e', r⟩ := S.fz j e h1 h2 h3
    exact ⟨v, e', r.sub hs⟩
  bor := fun j e h1 h2 h3 => by
    have : i ≠ j := fun z => h2 (by rw [z]; exact List.mem_singleton.mpr rfl)
    rw [List.getElem?_set_ne this] at h1
    obtain ⟨v, e', r⟩ := S.bor j e h1 h2 h3
    exact ⟨v, e', r.sub hs⟩
  ow := fun j e h1 h2 => by
    have := List.mem_singleton.mp h2
    subst this
    obtain ⟨hl, _⟩ := List.getElem?_eq_some_iff.mp hi
    rw [List.getElem?_set_self hl] at h1
    cases h1
    exact (.inr ⟨q, hq, hqO, hq0, w⟩)
  dist := fun j hj l hl hne => absurd ((List.mem_singleton.mp hj).trans (List.mem_singleton.mp hl).symm) hne
  len := by simp [S.len]
end
def saStep (kvs : List (D × D)) (k v : D) : Option (List (D × D)) :=
  if dKind kvs k = true ∧ kvs.length < sizeLine then (match dGet kvs k with
    | none => some (dPut kvs k (.list [v]))
    | some (.list dd) => if dd.length < sizeLine then some (dPut kvs k (.list (dd ++ [v]))) else none
    | _ => none) else none
def saL (i : Nat) (bnd : D → Env → Option Env) (gk gv : Env → R D) : List D → List (D × D) → Env → Out
  | [], kvs, ρ => .next (ρ.set i (some (.dict kvs)))
  | d :: ds, kvs, ρ => match bnd d ρ with
    | none => .stuck
    | some ρ2 => match ρ2[i]? with
      | some none => (match gk ρ2 with
        | .ok k => (match gv ρ2 with
          | .ok v => (match saStep kvs k v with
            | some kvs' => saL i bnd gk gv ds kvs' ρ2
            | none => .stuck)
          | _ => .stuck)
        | _ => .stuck)
      | _ => .stuck
def yForSA (i : Nat) (gi : Env → R (List D)) (bnd : D → Env → Option Env) (gk gv : Env → R D) : YF := fun ρ => match ρ[i]? with
  | some (some (.dict [])) => yB (gi ρ) ρ fun ds => saL i bnd gk gv ds [] (ρ.set i none)
  | _ => .stuck
section
variable {X : Cx} {W : WX} {fr : Bool} {B Ωl : List Nat} {k : Nat} {e ek ev : Expr} {gk gv : Env → R D} {pos pos' : Pos}
abbrev tSA (X : Cx) (W : WX) (B : List Nat) (i : Nat) (gk gv : Env → R D) : TE := tBM X.fr "list" rAppend (tDSetdE X.fr (tVar i) (tB X.fr X.mg W B [i] gk) (tLst tNil)) (tCons (tX X.fr X.mg W B [i] gv) tNil)
theorem goodOk {α β : Type} {mg : Str → Option Value} {σ : St} {Rel : Hp → β → α → Prop} {H : Hp} {r : R α} {d : α} {Q : β → Hp → Prop} (h : r = .ok d) (k : ∀ v H', Same H H' → Rel H' v d → Q v H') : Good mg W σ Rel H r Q := by
  subst h; exact k
theorem py_forSA {tg iter : Expr} {i : Nat} {gi : Env → R (List D)} {tgg : TG} {is : List Nat} {bnd : D → Env → Option Env} (G : Gd X W k) (hb : B.contains i = false) (hi : PIs X W B [i] tg iter gi) (u : TgU X.fr B [i] tgg is bnd) (hg : PG X tg tgg) (hp : PE X e (tSA X W B i gk gv))
    (hs : ∀ x, foldedSetIterable iter X.env x = pure x := by intro _; rfl) (hsw : swapsWith e none pos'.line X.env = pure false := by rfl) : PY X W fr B Ωl [i] [i] (.For tg iter [.Expr e pos'] [] pos) (yForSA i gi bnd gk gv) :=
  PS.imp (ps_for G.hp G.hc hi hg (pss_one (ps_expr hp hsw)) hs) fun Dn σ H ⟨H0, O0, O, ρ, S, h⟩ => by
    have hb : i ∉ B := by simpa using hb
    have hB : noB B [i] = true := by simpa [noB] using hb
    unfold yForSA at h
    split at h
    · rename_i er
      obtain ⟨q, eq, hqO, hq0, es0, hq, r0⟩ := S.owL i _ er (List.mem_singleton.mpr rfl) rfl
      cases r0
      refine ⟨H0, O0, O, ρ, S, goodB (ff := fun ds => saL i bnd gk gv ds [] (ρ.set i none)) hB S h fun ds J H1 e1 s1 it h1 => ?_⟩
      have S1 := (S.same s1).off
      have hi1 : (ρ.set i none)[i]? = some none := by
        obtain ⟨hl, _⟩ := List.getElem?_eq_some_iff.mp er
        exact List.getElem?_set_self hl
      let P : Nat → St → Hp → Prop := fun n σ' H' => ∃ O' ρ' es kvs, Step O H1 O' H' ∧ Stt X.fr H0 O0 B [i] O' H' σ' ρ' ∧ ρ'[i]? = some none ∧ σ'[i]? = some (some (.ref q)) ∧ q ∈ O' ∧ H' q = some (dR X.fr q es) ∧ OKv X.fr H0 q O' H' es kvs ∧ GoodS X.fr X.mg W fr H0 O0 B Ωl [i] O' H' (saL i bnd gk gv (ds.drop n) kvs ρ') Dn
      refine ⟨fun n m σ' H' => m = ds.length - n ∧ n ≤ ds.length ∧ P n σ' H', ⟨ds.length, by omega, Nat.zero_le _, O, _, [], [], Step.refl, S1, hi1, eq, hqO, s1 _ _ hq, .nil, by simpa using h1⟩, ?_⟩
      rintro n m σ' H' ⟨rfl, hn, O', ρ', es, kvs, st, S', hi', eq', hq', hd', ok, h'⟩
      obtain ⟨go, stop⟩ := it O' H' S'.keep st S'.trk
      by_cases hlt : n < ds.length
      · have ed : ds[n]? = some ds[n] := List.getElem?_eq_getElem hlt
        obtain ⟨g1, g2⟩ := go n _ ed
        refine .inr ⟨g1, P (n + 1), fun σ2 H2 z => ⟨ds.length - (n + 1), by omega, rfl, hlt, z⟩, fun x H2 y => ?_⟩
        obtain ⟨sy, rx⟩ := g2 x H2 y
        have S2 := S'.same sy
        have h2 := GoodS.step (Step.of_same sy) h'
        have st2 := st.tr (Step.of_same (O := O') sy)
        rw [List.drop_eq_getElem_cons hlt] at h2
        unfold saL at h2
        split at h2
        · exact h2.elim
        rename_i ρ2 eb
        split at h2
        case h_2 => exact h2.elim
        rename_i hi2
        split at h2
        case h_2 => exact h2.elim
        rename_i kk ek
        split at h2
        case h_2 => exact h2.elim
        rename_i vv ev
        split at h2
        case h_2 => exact h2.elim
        rename_i kvs' es'
        refine u S2 rx eb fun σ3 S3 _ hown => ?_
        have eq3 : σ3[i]? = some (some (.ref q)) := by rw [hown i (List.mem_singleton.mpr rfl)]; exact eq'
        have hd2 := sy _ _ hd'
        have ok2 := ok.same sy
        -- the key
        refine ⟨.ref q, eq3, q, es, rfl, hd2, H0, O0, O', ρ2, S3, goodOk ek fun kx H3 s3 rk => ?_⟩
        have S4 := S3.same s3
        have ok3 := ok2.same s3
        have hd3 := s3 _ _ hd2
        -- the new list
        refine ⟨Nat.zero_le _, fun p hp => ?_⟩
        have sp : Same H3 (upd H3 p (.lst [])) := same_upd hp
        have ok4 := ok3.same sp
        have hd4 := sp _ _ hd3
        unfold saStep at es'
        split at es'
        case isFalse => cases es'
        rename_i hc
        have hlen := rpkv_len ok4.kv
        refine ⟨[], es, kvs, kk, hd4, ok4.kv, hc.1, (rk.ge sp (Ge.of_same sp)).sub (by simp), by rw [hlen]; exact hc.2, fun w hw => ?_, fun hw => ?_⟩
        · -- found
          obtain ⟨a, xs, dd, e, ⟨e0, m0, m1⟩, e2, e3, e4, e5, e6, e7⟩ := ok4.found hw
          subst e
          rw [e2] at es'
          simp only at es'
          split at es'
          case isFalse => cases es'
          rename_i hz
          have es' := Option.some.inj es'
          have S5 := S4.same sp
          refine ⟨tyL e3, H0, O0, O', ρ2, S5, goodOk ev fun y H5 s5 ry => ?_⟩
          have e35 := s5 _ _ e3
          refine ⟨a, xs, y, rfl, rfl, e35, by rw [e4.length]; exact hz, ?_⟩
          have ok5 := ok4.same s5
          obtain ⟨a2, xs2, dd2, f1, _, f2, f3, f4, f5, f6, f7⟩ := ok5.found hw
          cases f1
          rw [e35] at f3
          cases f3
          rw [e2] at f2
          cases f2
          have ok6 := f7 y vv ry
          have S6 := (S5.same s5).updq (o := .lst (xs ++ [y])) hi2 e5 e6
          have epl : kvs' = rpl kvs kk (.list (dd ++ [vv])) := by
            rw [← es']
            unfold dPut rpl
            rw [if_pos]
            have : (dGet kvs kk).isSome = true := by rw [e2]; rfl
            unfold dGet at this
            rw [Option.isSome_map, List.find?_isSome] at this
            obtain ⟨z, z1, z2⟩ := this
            exact List.any_eq_true.mpr ⟨z, z1, z2⟩
          subst epl
          have hne : a ≠ q := by
            obtain ⟨a', ea', _, ne, _⟩ := ok5.mem e0 m0
            rw [m1] at ea'; cases ea'; exact ne
          have stt : Step O' H2 O' (upd H5 a (.lst (xs ++ [y]))) := ((Step.of_same (Same.tr s3 (Same.tr sp s5))).tr ⟨ge_upd e5, fun _ h => .inl h⟩)
          exact ⟨O', ρ2, es, _, st2.tr stt, S6, hi2, eq3, hq', by rw [upd_ne (Ne.symm hne)]; exact s5 _ _ hd4, ok6, h2.step stt⟩
        · -- not found
          have hkn := look_none hw
          have hg : dGet kvs kk = none := by
            rcases get_rel (k := kk) ok4.kv with ⟨_, b⟩ | ⟨_, _, a, _⟩
            · exact b
            · rw [hw] at a; cases a
          rw [hg] at es'
          simp only at es'
          have es' := Option.some.inj es'
          have hpO : ∀ a ∈ O', a ≠ p := fun a ha z => S4.trk a ha (by rw [z]; exact hp)
          have hqp : q ≠ p := hpO q hq'
          have hp0 : H0 p = none := by
            cases z : H0 p with
            | none => rfl
            | some u => rw [S4.keep p u z] at hp; cases hp
          have eput : putE es kk kx (.ref p) = es ++ [(kk, kx, .ref p)] := by
            unfold putE
            rw [if_neg]
            intro z
            obtain ⟨e, he, z⟩ := List.any_eq_true.mp z
            exact hkn e he (of_decide_eq_true z)
          rw [eput]
          have S5 := (S4.addO hi2 hp (o := .lst [])).updq (o := dR X.fr q (es ++ [(kk, kx, .ref p)])) hi2 (List.mem_cons_of_mem _ hq') hq0
          have eH5 : (upd (upd H3 p (.lst [])) q (dR X.fr q (es ++ [(kk, kx, .ref p)]))) p = some (.lst []) := by rw [upd_ne (Ne.symm hqp), upd_same]
          refine ⟨tyL eH5, H0, O0, p :: O', ρ2, S5, goodOk ev fun y H5 s5 ry => ?_⟩
          have e5 := s5 _ _ eH5
          refine ⟨p, [], y, rfl, rfl, e5, by rw [sizeLine_eq]; decide, ?_⟩
          have hmem := ok4.mem
          have okA : OKv X.fr H0 q (p :: O') (upd (upd H3 p (.lst [])) q (dR X.fr q (es ++ [(kk, kx, .ref p)]))) es kvs :=
            ((ok3.fresh hp).same sp).upd (List.mem_cons_of_mem _ hq') fun e he z => by
              obtain ⟨a, ea, _, ne, _⟩ := hmem e he
              rw [ea] at z; cases z; exact ne rfl
          have nep : ∀ e ∈ es, e.2.2 ≠ .ref p := fun e he z => by
            obtain ⟨a, ea, hm, _⟩ := hmem e he
            rw [ea] at z; cases z; exact hpO p hm rfl
          have okB := (okA.same s5).upd (o := .lst ([] ++ [y])) List.mem_cons_self nep
          have geA : Ge (p :: O') (upd H3 p (.lst [])) (upd (upd H3 p (.lst [])) q (dR X.fr q (es ++ [(kk, kx, .ref p)]))) := ge_upd (List.mem_cons_of_mem _ hq')
          have rkp : Rp X.fr O' H3 kx kk := dk_rp hc.1 rk
          have rkB : Rp X.fr (p :: O') (upd H5 p (.lst ([] ++ [y]))) kx kk := ((((rkp.fresh hp).same sp).ge geA).same s5).ge (ge_upd List.mem_cons_self)
          have keysne : ∀ e ∈ kvs, keyN e.1 ≠ keyN kk := fun e he => by
            have hk := ok4.keys
            have : e.1 ∈ es.map (·.1) := by rw [← hk]; exact List.mem_map_of_mem he
            obtain ⟨e', h', ee⟩ := List.mem_map.mp this
            rw [← ee]; exact hkn e' h'
          have ryB : RpAll X.fr (p :: O') (upd H5 p (.lst ([] ++ [y]))) ([] ++ [y]) [vv] := RpAll.one (ry.ge (ge_upd List.mem_cons_self))
          have okC := okB.snoc (dk_kyb hc.1) rkB upd_same ryB List.mem_cons_self (Ne.symm hqp) hp0 nep keysne
          have epl : kvs' = kvs ++ [(kk, .list [vv])] := by
            rw [← es']
            unfold dPut
            rw [if_neg]
            intro z
            obtain ⟨e, he, z⟩ := List.any_eq_true.mp z
            exact keysne e he (of_decide_eq_true z)
          subst epl
          have S6 := (S5.same s5).updq (o := .lst ([] ++ [y])) hi2 List.mem_cons_self hp0
          have st5 : Step O' H2 (p :: O') (upd H5 p (.lst ([] ++ [y]))) := by
            refine ⟨fun a o ha e => ?_, fun a ha => ?_⟩
            · have e3 := s3 _ _ e
              have nep' : a ≠ p := fun z => by rw [z, hp] at e3; cases e3
              have neq' : a ≠ q := fun z => ha (by rw [z]; exact hq')
              rw [upd_ne nep']
              refine s5 _ _ ?_
              rw [upd_ne neq', upd_ne nep']
              exact e3
            · rcases List.mem_cons.mp ha with rfl | ha
              · right
                cases z : H2 a with
                | none => rfl
                | some o => rw [s3 _ _ z] at hp; cases hp
              · exact .inl ha
          refine ⟨p :: O', ρ2, _, _, st2.tr st5, S6, hi2, eq3, List.mem_cons_of_mem _ hq', ?_, okC, h2.step st5⟩
          rw [upd_ne hqp]
          exact s5 _ _ upd_same
      · have e : n = ds.length := by omega
        subst e
        rw [List.drop_length] at h'
        refine .inl ⟨stop, ?_⟩
        have hm := ok.mem
        let O2 : List Addr := O'.filter fun a => decide (∀ e ∈ es, e.2.2 ≠ .ref a)
        have sub2 : ∀ a ∈ O2, a ∈ O' := fun a ha => (List.mem_filter.mp ha).1
        have w : OwnAt X.fr O2 H' q (.dict kvs) := ⟨es, hd', ok.give sub2 fun e he a ea z => by
          have := of_decide_eq_true (List.mem_filter.mp z).2
          exact this e he ea⟩
        have S2 := S'.onQ (O' := O2) hi' hb sub2 (fun a ha => List.mem_filter.mpr ⟨S'.sub a ha, decide_eq_true fun e he z => by
          obtain ⟨a', ea, _, _, h0, _⟩ := hm e he
          rw [ea] at z; cases z
          exact S'.trk0 a ha h0⟩) eq' (List.mem_filter.mpr ⟨hq', decide_eq_true fun e he z => by
          obtain ⟨a', ea, _, ne, _⟩ := hm e he
          rw [ea] at z; cases z
          exact ne rfl⟩) hq0 w
        exact h' σ' O2 H' ⟨fun _ _ _ e => e, fun a ha => .inl (sub2 a ha)⟩ S2
    · exact h.elim
end
section
variable {i : Nat} {gi : Env → R (List D)} {bnd : D → Env → Option Env} {gk gv : Env → R D} {ρ : Env}
theorem yForSA_e (h : ρ[i]? = some (some (.dict []))) : yForSA i gi bnd gk gv ρ = yB (gi ρ) ρ fun ds => saL i bnd gk gv ds [] (ρ.set i none) := by
  unfold yForSA; rw [h]
theorem saL_ix {α : Type} (enc : α → D) (I : Nat → List (D × D) → Env → Prop) (xs : List α) (kvs : List (D × D)) (ρ : Env) (h0 : I 0 kvs ρ)
    (h : ∀ n x kvs ρ, xs[n]? = some x → I n kvs ρ → ∃ ρ2 k v kvs', bnd (enc x) ρ = some ρ2 ∧ ρ2[i]? = some none ∧ gk ρ2 = .ok k ∧ gv ρ2 = .ok v ∧ saStep kvs k v = some kvs' ∧ I (n + 1) kvs' ρ2) :
    ∃ kvs' ρ', saL i bnd gk gv (xs.map enc) kvs ρ = .next (ρ'.set i (some (.dict kvs'))) ∧ I xs.length kvs' ρ' := by
  have gen : ∀ (m n : Nat) (kvs : List (D × D)) (ρ : Env), m = xs.length - n → n ≤ xs.length → I n kvs ρ → ∃ kvs' ρ', saL i bnd gk gv ((xs.drop n).map enc) kvs ρ = .next (ρ'.set i (some (.dict kvs'))) ∧ I xs.length kvs' ρ' := by
    intro m
    induction m with
    | zero =>
      intro n kvs ρ hm hn hI
      have : n = xs.length := by omega
      subst this
      rw [List.drop_length]
      exact ⟨kvs, ρ, rfl, hI⟩
    | succ m ih =>
      intro n kvs ρ hm hn hI
      have hlt : n < xs.length := by omega
      obtain ⟨ρ2, k, v, kvs', e1, e2, e3, e4, e5, hI2⟩ := h n xs[n] kvs ρ (List.getElem?_eq_getElem hlt) hI
      obtain ⟨kvs2, ρ3, e6, hI3⟩ := ih (n + 1) kvs' ρ2 (by omega) hlt hI2
      refine ⟨kvs2, ρ3, ?_, hI3⟩
      rw [List.drop_eq_getElem_cons hlt, List.map_cons]
      unfold saL
      simp only [e1, e2, e3, e4, e5]
      exact e6
  simpa using gen xs.length 0 kvs ρ (by omega) (Nat.zero_le _) h0
end
theorem lookup_relabel_cf {env : PySem.Env} : ∀ {names : List (Str × NameKind)} {x : Str}, names.lookup x = some .cell ∨ names.lookup x = some .free →
    (names.map fun (n, k) => if (k == NameKind.free && env.scope.kind == .function && env.kindOf n == some .cell) then (n, NameKind.cell) else (n, k)).lookup x = some .cell ∨
    (names.map fun (n, k) => if (k == NameKind.free && env.scope.kind == .function && env.kindOf n == some .cell) then (n, NameKind.cell) else (n, k)).lookup x = some .free
  | [], _, h => by simp at h
  | (n, k) :: r, x, h => by
    have ih := @lookup_relabel_cf env r x
    show List.lookup x ((if (k == NameKind.free && env.scope.kind == .function && env.kindOf n == some .cell) = true then (n, NameKind.cell) else (n, k)) :: _) = _ ∨ List.lookup x ((if (k == NameKind.free && env.scope.kind == .function && env.kindOf n == some .cell) = true then (n, NameKind.cell) else (n, k)) :: _) = _
    cases hx : x == n with
    | true =>
      simp only [List.lookup_cons, hx] at h
      by_cases hc : (k == NameKind.free && env.scope.kind == .function && env.kindOf n == some .cell) = true
      · rw [if_pos hc]; simp only [List.lookup_cons, hx]; exact .inl trivial
      · rw [if_neg hc]; simp only [List.lookup_cons, hx]; exact h
    | false =>
      simp only [List.lookup_cons, hx] at h
      by_cases hc : (k == NameKind.free && env.scope.kind == .function && env.kindOf n == some .cell) = true
      · rw [if_pos hc]; simp only [List.lookup_cons, hx]; exact ih h
      · rw [if_neg hc]; simp only [List.lookup_cons, hx]; exact ih h
/-- a comprehension in a comprehension -/
theorem blkOk_blk {X : Cx} {s : Shared} {H : Hp} {scope scope2 : Scope} {C : Addr} {cl : List (Str × Addr)} {fp : List Addr} {own : List (Str × Nat)} {N : List Str} (hN : X.N = N) (h : blkC N scope scope2 own = true) :
    BlkOk (X.blk s H scope (compEnvC scope cl C X.env) fp).N (X.blk s H scope (compEnvC scope cl C X.env) fp).env.scope scope2 own := by
  subst hN
  have b : BlkOk X.N scope scope2 own := blkOk_by h
  exact ⟨b.kind, b.uniq, b.ix, fun y hy e => lookup_relabel_cf (env := X.env) (b.free y hy e), b.own⟩
end MV

set_option Elab.async false
set_option linter.all false
set_option maxRecDepth 100000
set_option maxHeartbeats 4000000
namespace MV
open PySem L2
/-! ### x = [[], []]; a loop that appends to x[0], x[1] -/
inductive OutD where
  | nx (ρ : Env) (a b : List D)
  | rt (d : D)
  | st
abbrev YD := Env → List D → List D → OutD
structure DSt (K : Fr) (H0 : Hp) (O0 : List Addr) (B : List Nat) (i : Nat) (q a b : Addr) (O : List Addr) (H : Hp) (σ : St) (ρ : Env) (la lb : List D) : Prop where
  S : Stt K H0 O0 B [i] O H σ ρ
  hi : ρ[i]? = some none
  sq : σ[i]? = some (some (.ref q))
  qO : q ∈ O
  q0 : H0 q = none
  hq : H q = some (.lst [.ref a, .ref b])
  aq : a ≠ q
  bq : b ≠ q
  ab : a ≠ b
  aO : a ∈ O
  bO : b ∈ O
  a0 : H0 a = none
  b0 : H0 b = none
  ca : ∃ xs, H a = some (.lst xs) ∧ RpAll K O H xs la
  cb : ∃ xs, H b = some (.lst xs) ∧ RpAll K O H xs lb
section
variable {K : Fr} {H0 : Hp} {O0 : List Addr} {B : List Nat} {i : Nat} {q a b : Addr} {O : List Addr} {H H' : Hp} {σ : St} {ρ : Env} {la lb : List D}
theorem DSt.same (S : DSt K H0 O0 B i q a b O H σ ρ la lb) (s : Same H H') : DSt K H0 O0 B i q a b O H' σ ρ la lb :=
  ⟨S.S.same s, S.hi, S.sq, S.qO, S.q0, s _ _ S.hq, S.aq, S.bq, S.ab, S.aO, S.bO, S.a0, S.b0, let ⟨xs, h, r⟩ := S.ca; ⟨xs, s _ _ h, r.same s⟩, let ⟨xs, h, r⟩ := S.cb; ⟨xs, s _ _ h, r.same s⟩⟩
theorem DSt.set {j : Nat} {v : V} {d : D} (S : DSt K H0 O0 B i q a b O H σ ρ la lb) (r : Rp K O H v d) (hB : j ∉ B) (hj : j ≠ i) : DSt K H0 O0 B i q a b O H (σ.set j (some v)) (ρ.set j (some d)) la lb := by
  have e : [i].filter (· ≠ j) = [i] := by simp [Ne.symm hj]
  refine ⟨e ▸ S.S.set r hB, ?_, ?_, S.qO, S.q0, S.hq, S.aq, S.bq, S.ab, S.aO, S.bO, S.a0, S.b0, S.ca, S.cb⟩
  · rw [List.getElem?_set_ne hj]; exact S.hi
  · rw [List.getElem?_set_ne hj]; exact S.sq
theorem DSt.swap (S : DSt K H0 O0 B i q a b O H σ ρ la lb) {y : V} {d : D} {xs : List V} (hx : H a = some (.lst xs)) (hr : RpAll K O H xs la) (r : Rp K O H y d) : DSt K H0 O0 B i q a b O (upd H a (.lst (xs ++ [y]))) σ ρ (la ++ [d]) lb := by
  have ge : Ge O H (upd H a (.lst (xs ++ [y]))) := ge_upd S.aO
  refine ⟨S.S.updq S.hi S.aO S.a0, S.hi, S.sq, S.qO, S.q0, by rw [upd_ne (Ne.symm S.aq)]; exact S.hq, S.aq, S.bq, S.ab, S.aO, S.bO, S.a0, S.b0, ⟨_, upd_same, (hr.ge ge).append (RpAll.one (r.ge ge))⟩, ?_⟩
  obtain ⟨ys, h, r'⟩ := S.cb
  exact ⟨ys, by rw [upd_ne (Ne.symm S.ab)]; exact h, r'.ge ge⟩
theorem DSt.swapB (S : DSt K H0 O0 B i q a b O H σ ρ la lb) {y : V} {d : D} {xs : List V} (hx : H b = some (.lst xs)) (hr : RpAll K O H xs lb) (r : Rp K O H y d) : DSt K H0 O0 B i q a b O (upd H b (.lst (xs ++ [y]))) σ ρ la (lb ++ [d]) := by
  have ge : Ge O H (upd H b (.lst (xs ++ [y]))) := ge_upd S.bO
  refine ⟨S.S.updq S.hi S.bO S.b0, S.hi, S.sq, S.qO, S.q0, by rw [upd_ne (Ne.symm S.bq)]; exact S.hq, S.aq, S.bq, S.ab, S.aO, S.bO, S.a0, S.b0, ?_, ⟨_, upd_same, (hr.ge ge).append (RpAll.one (r.ge ge))⟩⟩
  obtain ⟨ys, h, r'⟩ := S.ca
  exact ⟨ys, by rw [upd_ne S.ab]; exact h, r'.ge ge⟩
/-- all three are given up -/
theorem DSt.give (S : DSt K H0 O0 B i q a b O H σ ρ la lb) (hB : i ∉ B) : ∃ O', Step O H O' H ∧ Stt K H0 O0 B [] O' H σ (ρ.set i (some (.list [.list la, .list lb]))) := by
  let O2 : List Addr := O.filter fun x => decide (x ≠ q ∧ x ≠ a ∧ x ≠ b)
  have sub : ∀ x ∈ O2, x ∈ O := fun x hx => (List.mem_filter.mp hx).1
  have no : ∀ x ∈ O2, x ≠ q ∧ x ≠ a ∧ x ≠ b := fun x hx => of_decide_eq_true (List.mem_filter.mp hx).2
  refine ⟨O2, ⟨fun _ _ _ e => e, fun x hx => .inl (sub x hx)⟩, S.S.keep, S.S.trk0, fun x hx => ?_, fun x hx => S.S.trk x (sub x hx), fun j e h1 _ h3 => ?_, fun j e h1 _ h3 => ?_, fun j e h1 h2 => by simp at h2, fun j hj => by simp at hj, by simp [S.S.len]⟩
  · refine List.mem_filter.mpr ⟨S.S.sub x hx, decide_eq_true ⟨fun z => S.S.trk0 x hx (z ▸ S.q0), fun z => S.S.trk0 x hx (z ▸ S.a0), fun z => S.S.trk0 x hx (z ▸ S.b0)⟩⟩
  · by_cases hj : i = j
    · subst hj
      obtain ⟨hl, _⟩ := List.getElem?_eq_some_iff.mp S.hi
      rw [List.getElem?_set_self hl] at h1
      cases h1
      obtain ⟨xs, x1, x2⟩ := S.ca
      obtain ⟨ys, y1, y2⟩ := S.cb
      exact ⟨_, S.sq, .lst ⟨fun z => (no _ z).1 rfl, .inl S.hq⟩ (.cons (.lst ⟨fun z => (no _ z).2.1 rfl, .inl x1⟩ (x2.sub sub)) (.cons (.lst ⟨fun z => (no _ z).2.2 rfl, .inl y1⟩ (y2.sub sub)) .nil))⟩
    · rw [List.getElem?_set_ne hj] at h1
      obtain ⟨v, e', r⟩ := S.S.fz j e h1 (fun z => hj (List.mem_singleton.mp z).symm) h3
      exact ⟨v, e', r.sub sub⟩
  · have hj : i ≠ j := fun z => hB (z ▸ h3)
    rw [List.getElem?_set_ne hj] at h1
    obtain ⟨v, e', r⟩ := S.S.bor j e h1 (fun z => hj (List.mem_singleton.mp z).symm) h3
    exact ⟨v, e', r.sub sub⟩
theorem Stt.offs {v : V} (S : Stt K H0 O0 B [] O H σ ρ) : Stt K H0 O0 B [i] O H (σ.set i (some v)) (ρ.set i none) where
  keep := S.keep
  trk0 := S.trk0
  sub := S.sub
  trk := S.trk
  fz := fun j d e h1 h2 => by
    have : i ≠ j := fun z => h1 (by rw [z]; exact List.mem_singleton.mpr rfl)
    rw [List.getElem?_set_ne this] at e
    rw [List.getElem?_set_ne this]
    exact S.fz j d e (by simp) h2
  bor := fun j d e h1 h2 => by
    have : i ≠ j := fun z => h1 (by rw [z]; exact List.mem_singleton.mpr rfl)
    rw [List.getElem?_set_ne this] at e
    rw [List.getElem?_set_ne this]
    exact S.bor j d e (by simp) h2
  ow := fun j d e h1 => by
    have := List.mem_singleton.mp h1
    subst this
    obtain ⟨hl, _⟩ := List.getElem?_eq_some_iff.mp e
    rw [List.getElem?_set_self (by simpa using hl)] at e
    cases e
  dist := fun j hj l hl hne => absurd ((List.mem_singleton.mp hj).trans (List.mem_singleton.mp hl).symm) hne
  len := by simp [S.len]
end
section
variable (K : Fr) (fr : Bool) (H0 : Hp) (O0 : List Addr) (B : List Nat) (i : Nat) (q a b : Addr)
def GoodD (O : List Addr) (H : Hp) (o : OutD) (Dn : Ends) : Prop := match o with
  | .nx ρ' la lb => ∀ σ' O' H', Step O H O' H' → DSt K H0 O0 B i q a b O' H' σ' ρ' la lb → Dn.nx σ' H'
  | .rt d => RetG K fr O0 H0 d Dn.rt
  | .st => False
end
theorem GoodD.step {K : Fr} {fr : Bool} {H0 : Hp} {O0 : List Addr} {B : List Nat} {i : Nat} {q a b : Addr} {O O' : List Addr} {H H' : Hp} {o : OutD} {Dn : Ends} (s : Step O H O' H') (h : GoodD K fr H0 O0 B i q a b O H o Dn) : GoodD K fr H0 O0 B i q a b O' H' o Dn := by
  cases o with
  | nx ρ la lb => exact fun σ' O2 H2 s2 S => h σ' O2 H2 (s.tr s2) S
  | rt d => exact h
  | st => exact h
def tD (K : Fr) (fr : Bool) (B : List Nat) (i : Nat) (f : YD) : TS := fun Dn σ H => ∃ H0 O0 O ρ q a b la lb, DSt K H0 O0 B i q a b O H σ ρ la lb ∧ GoodD K fr H0 O0 B i q a b O H (f ρ la lb) Dn
def PD (X : Cx) (_W : WX) (fr : Bool) (B : List Nat) (i : Nat) (st : Stmt) (f : YD) : Prop := PS X st (tD X.fr fr B i f)
def PDs (X : Cx) (_W : WX) (fr : Bool) (B : List Nat) (i : Nat) (st : List Stmt) (f : YD) : Prop := PSs X st (tD X.fr fr B i f)
def dNil : YD := .nx
def dSeq (f g : YD) : YD := fun ρ la lb => match f ρ la lb with
  | .nx ρ' la' lb' => g ρ' la' lb'
  | o => o
def dSet (j : Nat) (g : Env → R D) : YD := fun ρ la lb => match g ρ with
  | .ok d => .nx (ρ.set j (some d)) la lb
  | _ => .st
def dIf (gt : Env → R Bool) (f f' : YD) : YD := fun ρ la lb => match gt ρ with
  | .ok c => if c = true then f ρ la lb else f' ρ la lb
  | _ => .st
def dRet (g : Env → R D) : YD := fun ρ la lb => match g ρ with
  | .ok d => .rt d
  | _ => .st
def dAp0 (g : Env → R D) : YD := fun ρ la lb => match g ρ with
  | .ok d => if la.length < sizeLine then .nx ρ (la ++ [d]) lb else .st
  | _ => .st
def dAp1 (g : Env → R D) : YD := fun ρ la lb => match g ρ with
  | .ok d => if lb.length < sizeLine then .nx ρ la (lb ++ [d]) else .st
  | _ => .st
def dL (i : Nat) (bnd : D → Env → Option Env) (body : YD) : List D → List D → List D → Env → Out
  | [], la, lb, ρ => .next (ρ.set i (some (.list [.list la, .list lb])))
  | d :: ds, la, lb, ρ => match bnd d ρ with
    | none => .stuck
    | some ρ2 => match ρ2[i]? with
      | some none => (match body ρ2 la lb with
        | .nx ρ3 la' lb' => dL i bnd body ds la' lb' ρ3
        | .rt d => .ret d
        | .st => .stuck)
      | _ => .stuck
def yDeep (i : Nat) (gi : Env → R (List D)) (bnd : D → Env → Option Env) (body : YD) : YF := fun ρ => if i < ρ.length then (match gi (ρ.set i none) with
  | .ok ds => dL i bnd body ds [] [] (ρ.set i none)
  | _ => .stuck) else .stuck
def thenO (o : Out) (fy : YF) : Out := match o with
  | .next ρ' => fy ρ'
  | o => o
section
variable {X : Cx} {W : WX} {fr : Bool} {B Ωl Ω' : List Nat} {i : Nat} {k : Nat} {st : Stmt} {rest : List Stmt} {e c : Expr} {g : Env → R D} {gt : Env → R Bool} {f f' : YD} {pos : Pos}
theorem pds_nil : PDs X W fr B i [] dNil := PSs.imp pss_nil fun Dn σ H ⟨H0, O0, O, ρ, q, a, b, la, lb, S, h⟩ => h σ O H Step.refl S
theorem pds_one (h : PD X W fr B i st f) : PDs X W fr B i [st] f := pss_one h
theorem pds_cons (h1 : PD X W fr B i st f) (h2 : PDs X W fr B i rest f') : PDs X W fr B i (st :: rest) (dSeq f f') := PSs.imp (pss_cons h1 h2) fun Dn σ H ⟨H0, O0, O, ρ, q, a, b, la, lb, S, h⟩ => by
  refine ⟨H0, O0, O, ρ, q, a, b, la, lb, S, ?_⟩
  unfold dSeq at h
  cases z : f ρ la lb with
  | nx ρ' la' lb' => rw [z] at h; exact fun σ' O' H' s S' => ⟨H0, O0, O', ρ', q, a, b, la', lb', S', h.step s⟩
  | rt d => rw [z] at h; exact h
  | st => rw [z] at h; exact h
theorem pd_set {j : Nat} {x : Str} {pos' : Pos} (G : Gd X W k) (hb : B.contains j = false) (hj : (j == i) = false) (hi : X.N[j]? = some x) (hx : Loc X.env.scope x) (he : PX X W B [i] e g) (hs : swapsWith e (some (.Name x pos')) pos.line X.env = pure false := by rfl)
    (hf : X.fn x = true ∨ X.env.scope.names.lookup x = some .local := by first | exact .inl rfl | exact .inr rfl | assumption) : PD X W fr B i (.Assign [.Name x pos'] e pos) (dSet j g) :=
  PS.imp (ps_set G.nd hi hx he hs hf) fun Dn σ H ⟨H0, O0, O, ρ, q, a, b, la, lb, S, h⟩ => by
    unfold dSet at h
    refine ⟨H0, O0, O, ρ, S.S, ?_⟩
    cases z : g ρ with
    | ok d => rw [z] at h; exact fun v H1 s r => h _ O H1 (Step.of_same s) ((S.same s).set r (by simpa using hb) (by simpa using hj))
    | exc n => rw [z] at h; exact h.elim
    | stuck => rw [z] at h; exact h.elim
theorem pd_if {p r : List Stmt} (hc : PTx X W B [i] c gt) (ha : PDs X W fr B i p f) (hb : PDs X W fr B i r f') : PD X W fr B i (.If c p r pos) (dIf gt f f') :=
  PS.imp (ps_if hc ha hb) fun Dn σ H ⟨H0, O0, O, ρ, q, a, b, la, lb, S, h⟩ => by
    unfold dIf at h
    refine ⟨H0, O0, O, ρ, S.S, ?_⟩
    cases z : gt ρ with
    | ok d =>
      rw [z] at h
      intro v H1 s r
      have r : v = d := r
      subst r
      have h := GoodD.step (Step.of_same s) h
      cases v with
      | true => exact ⟨H0, O0, O, ρ, q, a, b, la, lb, S.same s, h⟩
      | false => exact ⟨H0, O0, O, ρ, q, a, b, la, lb, S.same s, h⟩
    | exc n => rw [z] at h; exact h.elim
    | stuck => rw [z] at h; exact h.elim
theorem pd_ret (he : PX X W B [i] e g) : PD X W false B i (.Return (some e) pos) (dRet g) :=
  PS.imp (ps_ret he) fun Dn σ H ⟨H0, O0, O, ρ, q, a, b, la, lb, S, h⟩ => by
    unfold dRet at h
    refine ⟨H0, O0, O, ρ, S.S, ?_⟩
    cases z : g ρ with
    | ok d =>
      rw [z] at h
      have h : RetG X.fr false O0 H0 d Dn.rt := h
      exact fun v H1 s r => h v H1 (Same.tr S.S.keep s) (r.sub S.S.sub)
    | exc n => rw [z] at h; exact h.elim
    | stuck => rw [z] at h; exact h.elim
abbrev tDA (X : Cx) (W : WX) (B : List Nat) (i : Nat) (n : Int) (g : Env → R D) : TE := tBM X.fr "list" rAppend (tOp (rIxL X.K) (tVar i) (tC (.int n))) (tCons (tX X.fr X.mg W B [i] g) tNil)
theorem pd_ap0 (hp : PE X e (tDA X W B i 0 g)) (hs : swapsWith e none pos.line X.env = pure false := by rfl) : PD X W fr B i (.Expr e pos) (dAp0 g) :=
  PS.imp (ps_expr hp hs) fun Dn σ H ⟨H0, O0, O, ρ, q, a, b, la, lb, S, h⟩ => by
    unfold dAp0 at h
    obtain ⟨xs, x1, x2⟩ := S.ca
    refine ⟨.ref q, S.sq, q, _, 0, .ref a, rfl, rfl, .inl (.inl S.hq), rfl, tyL x1, H0, O0, O, ρ, S.S, ?_⟩
    cases z : g ρ with
    | ok d =>
      rw [z] at h
      simp only at h
      split at h
      case isFalse => exact h.elim
      rename_i hz
      intro v H1 s r
      have x1' := s _ _ x1
      refine ⟨a, xs, v, rfl, rfl, x1', by rw [x2.length]; exact hz, ?_⟩
      exact h _ O _ ⟨fun x o hx e => by rw [upd_ne (fun z => hx (by rw [z]; exact S.aO))]; exact s x o e, fun x hx => .inl hx⟩ ((S.same s).swap x1' (x2.same s) r)
    | exc n => rw [z] at h; exact h.elim
    | stuck => rw [z] at h; exact h.elim
theorem pd_ap1 (hp : PE X e (tDA X W B i 1 g)) (hs : swapsWith e none pos.line X.env = pure false := by rfl) : PD X W fr B i (.Expr e pos) (dAp1 g) :=
  PS.imp (ps_expr hp hs) fun Dn σ H ⟨H0, O0, O, ρ, q, a, b, la, lb, S, h⟩ => by
    unfold dAp1 at h
    obtain ⟨xs, x1, x2⟩ := S.cb
    refine ⟨.ref q, S.sq, q, _, 1, .ref b, rfl, rfl, .inl (.inl S.hq), rfl, tyL x1, H0, O0, O, ρ, S.S, ?_⟩
    cases z : g ρ with
    | ok d =>
      rw [z] at h
      simp only at h
      split at h
      case isFalse => exact h.elim
      rename_i hz
      intro v H1 s r
      have x1' := s _ _ x1
      refine ⟨b, xs, v, rfl, rfl, x1', by rw [x2.length]; exact hz, ?_⟩
      exact h _ O _ ⟨fun x o hx e => by rw [upd_ne (fun z => hx (by rw [z]; exact S.bO))]; exact s x o e, fun x hx => .inl hx⟩ ((S.same s).swapB x1' (x2.same s) r)
    | exc n => rw [z] at h; exact h.elim
    | stuck => rw [z] at h; exact h.elim
theorem pys_deep {tg iter : Expr} {body : List Stmt} {x : Str} {gi : Env → R (List D)} {tgg : TG} {is : List Nat} {bnd : D → Env → Option Env} {fy : YF} {p1 p2 p3 p4 p5 : Pos} (G : Gd X W k) (hb : B.contains i = false) (hN : X.N[i]? = some x) (hx : Loc X.env.scope x)
    (hi : PIs X W B [i] tg iter gi) (u : TgU X.fr B [i] tgg is bnd) (hg : PG X tg tgg) (hbd : PDs X W fr B i body f) (hrest : PYs X W fr B Ωl [] Ω' rest fy)
    (hs1 : swapsWith (.List [.List [] p2, .List [] p3] p4) (some (.Name x p1)) p5.line X.env = pure false := by rfl)
    (hf : X.fn x = true ∨ X.env.scope.names.lookup x = some .local := by first | exact .inl rfl | exact .inr rfl | assumption)
    (hs : ∀ x, foldedSetIterable iter X.env x = pure x := by intro _; rfl) :
    PYs X W fr B Ωl [] Ω' (.Assign [.Name x p1] (.List [.List [] p2, .List [] p3] p4) p5 :: .For tg iter body [] pos :: rest) (ySeq (yDeep i gi bnd f) fy) :=
  PSs.imp (pss_cons (ps_set G.nd hN hx (pe_lst (pa_cons (pe_lst pa_nil) (pa_cons (pe_lst pa_nil) pa_nil))) hs1 hf) (pss_cons (ps_for G.hp G.hc hi hg hbd hs) hrest)) fun Dn σ H ⟨H0, O0, O, ρ, S, h⟩ => by
    have hb : i ∉ B := by simpa using hb
    have h2z : ∀ a b : Addr, [V.ref a, V.ref b].length ≤ sizeLine := fun a b => by rw [sizeLine_eq]; exact (by decide : (2 : Nat) ≤ 16777216)
    refine ⟨Nat.zero_le _, fun a ha => ⟨Nat.zero_le _, fun b hb' => ⟨h2z a b, fun q hq => ?_⟩⟩⟩
    have hab : a ≠ b := fun z => by rw [z, upd_same] at hb'; cases hb'
    have haq : a ≠ q := fun z => by
      rw [← z, upd_ne hab, upd_same] at hq; cases hq
    have hbq : b ≠ q := fun z => by rw [z, upd_same] at hq; cases hq
    have hHb : H b = none := by rw [upd_ne (Ne.symm hab)] at hb'; exact hb'
    have hHq : H q = none := by rw [upd_ne (Ne.symm hbq), upd_ne (Ne.symm haq)] at hq; exact hq
    have h : GoodS X.fr X.mg W fr H0 O0 B Ωl Ω' O H (thenO (yDeep i gi bnd f ρ) fy) Dn := h
    unfold yDeep at h
    split at h
    case isFalse => exact h.elim
    rename_i hl
    have hi0 : (ρ.set i none)[i]? = some none := List.getElem?_set_self hl
    have S3 := (((S.offs (i := i) (v := .ref q)).addO hi0 ha (o := .lst [])).addO hi0 hb' (o := .lst [])).addO hi0 hq (o := .lst [.ref a, .ref b])
    have DS : DSt X.fr H0 O0 B i q a b (q :: b :: a :: O) (upd (upd (upd H a (.lst [])) b (.lst [])) q (.lst [.ref a, .ref b])) (σ.set i (some (.ref q))) (ρ.set i none) [] [] :=
      ⟨S3, hi0, List.getElem?_set_self (by rw [S.len]; exact hl), by simp, free_back S.keep hHq, upd_same, haq, hbq, hab, by simp, by simp, free_back S.keep ha, free_back S.keep hHb, ⟨[], by rw [upd_ne haq, upd_ne hab, upd_same], .nil⟩, ⟨[], by rw [upd_ne hbq, upd_same], .nil⟩⟩
    have st0 : Step O H (q :: b :: a :: O) (upd (upd (upd H a (.lst [])) b (.lst [])) q (.lst [.ref a, .ref b])) := by
      refine ⟨fun x o _ e => ?_, fun x hx => ?_⟩
      · have n1 : x ≠ q := fun z => by rw [z, hHq] at e; cases e
        have n2 : x ≠ b := fun z => by rw [z, hHb] at e; cases e
        have n3 : x ≠ a := fun z => by rw [z, ha] at e; cases e
        rw [upd_ne n1, upd_ne n2, upd_ne n3]; exact e
      · simp only [List.mem_cons] at hx
        rcases hx with z | z | z | z
        · rw [z]; exact .inr hHq
        · rw [z]; exact .inr hHb
        · rw [z]; exact .inr ha
        · exact .inl z
    have h := GoodS.step st0 h
    refine ⟨H0, O0, _, _, DS.S, ?_⟩
    cases z : gi (ρ.set i none) with
    | exc n => rw [z] at h; exact h.elim
    | stuck => rw [z] at h; exact h.elim
    | ok ds =>
    rw [z] at h
    intro J H1 s1 it
    have h1 := GoodS.step (Step.of_same s1) h
    have D1 := DS.same s1
    generalize (q :: b :: a :: O) = O1 at *
    let P : Nat → St → Hp → Prop := fun n σ' H' => ∃ O' ρ' la lb, Step O1 H1 O' H' ∧ DSt X.fr H0 O0 B i q a b O' H' σ' ρ' la lb ∧ GoodS X.fr X.mg W fr H0 O0 B Ωl Ω' O' H' (thenO (dL i bnd f (ds.drop n) la lb ρ') fy) Dn
    refine ⟨fun n m σ' H' => m = ds.length - n ∧ n ≤ ds.length ∧ P n σ' H', ⟨ds.length, by omega, Nat.zero_le _, O1, _, [], [], Step.refl, D1, by simpa using h1⟩, ?_⟩
    rintro n m σ' H' ⟨rfl, hn, O', ρ', la, lb, st, S', h'⟩
    obtain ⟨go, stop⟩ := it O' H' S'.S.keep st S'.S.trk
    by_cases hlt : n < ds.length
    · have ed : ds[n]? = some ds[n] := List.getElem?_eq_getElem hlt
      obtain ⟨g1, g2⟩ := go n _ ed
      refine .inr ⟨g1, P (n + 1), fun σ2 H2 z => ⟨ds.length - (n + 1), by omega, rfl, hlt, z⟩, fun x H2 y => ?_⟩
      obtain ⟨sy, rx⟩ := g2 x H2 y
      have S2 := S'.same sy
      have h2 := GoodS.step (Step.of_same sy) h'
      have st2 := st.tr (Step.of_same (O := O') sy)
      rw [List.drop_eq_getElem_cons hlt] at h2
      unfold dL at h2
      split at h2
      · exact h2.elim
      rename_i ρ2 eb
      split at h2
      case h_2 => exact h2.elim
      rename_i hi2
      refine u S2.S rx eb fun σ3 S3 _ hown => ?_
      have D3 : DSt X.fr H0 O0 B i q a b O' H2 σ3 ρ2 la lb := ⟨S3, hi2, by rw [hown i (List.mem_singleton.mpr rfl)]; exact S2.sq, S2.qO, S2.q0, S2.hq, S2.aq, S2.bq, S2.ab, S2.aO, S2.bO, S2.a0, S2.b0, S2.ca, S2.cb⟩
      refine ⟨H0, O0, O', ρ2, q, a, b, la, lb, D3, ?_⟩
      cases w : f ρ2 la lb with
      | nx ρ3 la' lb' => rw [w] at h2; exact fun σ4 O4 H4 s4 S4 => ⟨O4, ρ3, la', lb', st2.tr s4, S4, h2.step s4⟩
      | rt d => rw [w] at h2; exact h2
      | st => rw [w] at h2; exact h2.elim
    · have e : n = ds.length := by omega
      subst e
      rw [List.drop_length] at h'
      obtain ⟨O2, s2, S2⟩ := S'.give hb
      exact .inl ⟨stop, H0, O0, O2, _, S2, h'.step s2⟩
end
end MV

set_option Elab.async false
set_option linter.all false
set_option maxRecDepth 100000
set_option maxHeartbeats 4000000
namespace MV
open PySem L2

/-! ### an exception out of a comprehension -/
abbrev blkR (X : Cx) (s : Shared) (H : Hp) (scope : Scope) (cenv : PySem.Env) (fp : List Addr) (xe : Value → Shared → Prop) : Cx := { X with s_0 := s, H_0 := H, env := cenv, outer := X.stack, ex := fp, fn := fun x => scope.names.lookup x == some .cell, pn := [], xe := xe }
section
variable {X : Cx} {pins : List (Addr × Obj)} {σ : St} {H H' : Hp} {s s' : Shared} {scope : Scope} {cenv : PySem.Env} {fp : List Addr} {xe : Value → Shared → Prop}
theorem okR (ok : (X.blk s H scope cenv fp).Ok) : (blkR X s H scope cenv fp xe).Ok :=
  ⟨ok.mod, ok.kind, ok.glob, ok.blt, ok.above, ok.inj, ok.has, ok.cab, ok.hd, ok.frames, ok.stk, ok.exf, ok.bs, ok.bsz, ok.noex, ok.exfs, ok.funs, ok.frf⟩
theorem invR (I : Inv (X.blk s H scope cenv fp) pins σ H' s') : Inv (blkR X s H scope cenv fp xe) pins σ H' s' :=
  ⟨okR I.ok, I.os, I.bare, I.base, I.loc, I.cell, I.free, I.freeC, I.pin, I.hok, I.len⟩
end
section
variable {M : Model} {A : Around} {E : Value → Shared → Prop} {s : Shared} {Z : Obj → Prop} {base : Heap} {env : PySem.Env} {outer l : List PySem.Env} {L e : Addr}
open PySem.Spec HandSPX in
theorem looks_anyZ {fl : Value} {Q : Unit → Shared → Prop} (hZ : PXN.Steady1 Z) (hfr : A.frames = some (env :: outer)) (hf : env.frame = some L) (hne : (fl == rawInt L) = false)
    (hkb : base.StaysIn s.heap) (hen : base.get? e = none) (hl : s.heap.FunFrames base (env :: outer)) (ht : TracedZ s.heap base e Z fl)
    (hQ : ∀ h', HeldZ base (env :: outer) e Z L h' → s.heap.UpToSlots h' → Q () { s with heap := h' }) : wpAny M A (noteFrame (.ref e) env) Q E s := by
  obtain ⟨oe, vs, T, oT, ts, he, hz, hd, h1, hnT, hTe, hT, hdT, h3⟩ := ht
  unfold noteFrame
  simp only [hf]
  refine wpAny_bind (wpAny_field he hd h1 ?_)
  rw [if_pos (show (Value.ref T != Value.none) = true from by simp)]
  refine wpAny_bind (wpAny_field hT hdT h3 ?_)
  rw [if_neg (by rw [hne]; decide)]
  refine wpAny_bind (wpAny_setField hT hdT (Array.getElem?_eq_some_iff.mp h3).1 ?_)
  have other : ∀ b, b ≠ T → (s.heap.update T (Obj.mapFields (·.setIfInBounds 3 Value.none))).get? b = s.heap.get? b := fun b hb => Heap.get?_update_other _ _ (Ne.symm hb)
  have noRecord : ∀ b o, s.heap.get? b = some o → (∀ vs, o.data ≠ .fields vs) → b ≠ T := fun b o hb hnf q => by
    rw [q, hT] at hb; injection hb with hb; subst hb; exact hnf ts hdT
  refine PXN.wpAny_entryZ hZ hfr (hl.of_keeps fun b o hb hnf => ⟨o, (other b (noRecord b o hb hnf)).trans hb, rfl⟩) hf ((other e (Ne.symm hTe)).trans he)
    (fun b o hbo => (other b fun q => by rw [q, hnT] at hbo; cases hbo).trans (hkb b o hbo)) hen hd (Array.getElem?_eq_some_iff.mp h1).1 hz fun h' hN => ?_
  obtain ⟨x1, x2, x3, x4⟩ := hN
  exact hQ h' ⟨x1, hen, x2, x3⟩ fun b o hb hnf => x4 b o ((other b (noRecord b o hb hnf)).trans hb) hnf
theorem funFrames_hide {h base base' : Heap} (k : ∀ b, base.get? b = none → base'.get? b = none) : ∀ {l : List PySem.Env}, h.FunFrames base l → h.FunFrames base' l
  | [], _ => trivial
  | _ :: _, ⟨hk, ⟨L', o, hf, hb, ho, hd⟩, hr⟩ => ⟨hk, ⟨L', o, hf, k _ hb, ho, hd⟩, funFrames_hide k hr⟩
end
section
variable {X : Cx} {W : WX} {pins : List (Addr × Obj)} {σ : St} {H3 : Hp} {s3 : Shared} {scope : Scope} {ce : PySem.Env} {fp : List Addr}
open PySem.Spec HandSPX in
theorem takesR (hs : X.stack = X.env :: X.outer) (hf : X.env.frame = some X.env.locals) (tk : L2N.Takes X W) (I3 : Inv X pins σ H3 s3) (f3 : ∀ b ∈ fp, FpOk X pins H3 b) (hcf : ce.frame = X.env.frame) (cL : ce.locals = s3.heap.objs.size) :
    L2N.Takes (blkR X s3 H3 scope ce fp (notedBy (model X.prog X.w) X.A ce (CompFails (model X.prog X.w) X.A X.xe ce))) (fun c d _ H' => W c d σ H') := by
  rintro u s' ⟨a, B, sI, pins', σ', H', cls, d, rfl, I, nb, up, sky, na, os, ag, w⟩
  have hfr : X.A.frames = some (X.env :: X.outer) := by rw [I3.ok.frames, hs]
  have I7 : Inv X pins σ H' sI := I3.call' (ch := fp) I.os I.base I.hok I.bare fun b hb => ⟨(f3 b hb).2.2.2.1, (f3 b hb).2.1, (f3 b hb).2.2.2.2.1, (f3 b hb).2.2.2.2.2⟩
  have nC : H' ce.locals = none := I.free
  obtain ⟨m, hn, _⟩ := I.loc
  have hn : sI.heap.Ns ce.locals m := hn
  have fC : FpOk X pins H' ce.locals := I3.fpOk (Nat.le_of_eq cL.symm) nC
  have hLC : ce.locals ≠ X.env.locals := fC.2.1
  show wpAny (model X.prog X.w) X.A (noteFrame (.ref a) ce) _ _ s'
  rw [noteFrame_env _ hcf]
  have fin : ∀ h', HeldZ B (X.env :: X.outer) a (L2N.Zn cls d) X.env.locals h' → s'.heap.UpToSlots h' → CompFails (model X.prog X.w) X.A X.xe ce (.ref a) { s' with heap := h' } := fun h' hh up' => by
    have upA := up.trans up'
    refine ⟨m, hn.upToSlots upA, fun h₂ m₂ hn₂ hs₂ => ?_⟩
    obtain ⟨b1, b0, f1, oe, vs, T, oT, ts, he, hz, hd, h1, hnT, hTe, hT, hdT, h3⟩ := hh
    obtain ⟨oC, esC, epC, hoC, hdC, _⟩ := hn.upToSlots upA
    have aC : a ≠ ce.locals := fun z => by
      have hoC : h'.get? ce.locals = some oC := hoC
      rw [← z] at hoC
      have he : h'.get? a = some oe := he
      rw [he] at hoC; cases hoC
      rw [hd] at hdC; cases hdC
    have TC : T ≠ ce.locals := fun z => by
      have hoC : h'.get? ce.locals = some oC := hoC
      rw [← z] at hoC
      have hT : h'.get? T = some oT := hT
      rw [hT] at hoC; cases hoC
      rw [hdT] at hdC; cases hdC
    have he2 : h₂.get? a = some oe := (hs₂.2 a aC).trans he
    have hT2 : h₂.get? T = some oT := (hs₂.2 T TC).trans hT
    have ne2 : ∀ {h : Heap} {b : Addr} {o : Obj}, (PySem.W.hideAll h [ce.locals]).get? b = some o → b ≠ ce.locals ∧ h.get? b = some o := fun {h b o} e => by
      refine ⟨fun z => ?_, PySem.W.of_hideAll _ e⟩
      rw [PySem.W.hideAll_none [ce.locals] (by rw [z]; exact List.mem_cons_self)] at e; cases e
    have no2 : ∀ {b : Addr}, B.get? b = none → (PySem.W.hideAll B [ce.locals]).get? b = none := fun {b} e => by
      cases q : (PySem.W.hideAll B [ce.locals]).get? b with
      | none => rfl
      | some o => rw [(ne2 q).2] at e; cases e
    have hh2 : HeldZ (PySem.W.hideAll B [ce.locals]) (X.env :: X.outer) a (L2N.Zn cls d) X.env.locals h₂ := by
      refine ⟨fun b o hb => ?_, no2 b0, ?_, oe, vs, T, oT, ts, he2, hz, hd, h1, no2 hnT, hTe, hT2, hdT, h3⟩
      · obtain ⟨q1, q2⟩ := ne2 hb
        exact (hs₂.2 b q1).trans (b1 b o q2)
      · exact Heap.FunFrames.sameBut hs₂ hn₂ (funFrames_hide (fun b e => no2 e) f1)
    unfold PySem.passOn
    refine wpAny_bind (wpAny_field he2 hd h1 ?_)
    rw [if_neg (show ¬ ((Value.ref T == Value.none) = true) from by simp)]
    have goal : wpAny (model X.prog X.w) X.A (setFlight (.ref a) ce.frame) (fun _ s4 => wpAny (model X.prog X.w) X.A (throw (.ref a) : Sem Value) (fun _ _ => False) X.xe s4) X.xe { s' with heap := h₂ } := by
      rw [hcf, hf]
      refine setFlight_onZ hh2 fun h4 hh4 up4 => wpAny_throw (tk _ _ ?_)
      refine ⟨a, PySem.W.hideAll B [ce.locals], { sI with heap := PySem.W.hideAll sI.heap [ce.locals] }, pins, σ, H', cls, d, rfl, ?_, fun b o e hb => ?_, fun b o e hnf => ?_, .inr (.inr (by rw [hs]; exact hh4)), na, os, ag, w⟩
      · exact I7.turned (t' := sI.toks) (fun b o hb e => PySem.W.hideAll_get _ e (by simpa using hb)) fC.1 fC.2.1 fC.2.2.2.1 fC.2.2.2.2.1 fC.2.2.2.2.2
      · obtain ⟨q1, q2⟩ := ne2 e
        exact PySem.W.hideAll_get _ (nb b o q2 hb) (by simpa using q1)
      · obtain ⟨q1, q2⟩ := ne2 e
        obtain ⟨sl, e1⟩ := upA b o q2 hnf
        have e2 : h₂.get? b = some { o with slots := sl } := (hs₂.2 b q1).trans e1
        obtain ⟨sl2, e3⟩ := up4 b _ e2 hnf
        exact ⟨sl2, e3⟩
    first
      | exact wpAny_bind (wpAny_pure (wpAny_bind goal))
      | exact wpAny_bind goal
  have sky : Sky B X.stack a (L2N.Zn cls d) ce.locals s'.heap := sky
  rw [hs] at sky
  rcases sky with ⟨hB, hn', hl, oe, vs, he, hz, hd, h1⟩ | fl | hd
  · exact PXN.look_newZ L2N.Zn.steady hfr hl hf he hB hn' hd h1 hz fin
  · exact PXN.looks_onZ L2N.Zn.steady hfr hf fl fin
  · exact looks_anyZ L2N.Zn.steady hfr hf (by simp [rawInt]; exact fun z => hLC (Int.ofNat.inj z)) hd.1 hd.2.1 hd.2.2.1 hd.2.2.2 fin
end

def Wat (W : WX) (σ : St) : WX := fun c d _ H' => W c d σ H'
section
variable {X : Cx} {W : WX}
open PySem.Spec in
theorem pe_lcR {elt tg iter : Expr} {ifs : List Expr} {scope : Scope} {own : List (Str × Nat)} {pos : Pos} {wi : TI} {g : TG} {tt : WX → TT} {te : WX → TE} (hst : X.stack = X.env :: X.outer) (hf : X.env.frame = some X.env.locals) (tk : L2N.Takes X W) (hc : X.calm = true) (hN : X.N.Nodup) (hi : PI X tg iter wi) (ok : BlkOk X.N X.env.scope scope own)
    (hg : ∀ (s : Shared) (H : Hp) (C : Addr) (cl : List (Str × Addr)) (fp : List Addr) (xe : Value → Shared → Prop), PG (blkR X s H scope (compEnvC scope cl C X.env) fp xe) tg g)
    (ht : ∀ (s : Shared) (H : Hp) (C : Addr) (cl : List (Str × Addr)) (fp : List Addr) (xe : Value → Shared → Prop) (W' : WX), L2N.Takes (blkR X s H scope (compEnvC scope cl C X.env) fp xe) W' → PassesOwn (model X.prog X.w) X.A (compEnvC scope cl C X.env) xe → PTs (blkR X s H scope (compEnvC scope cl C X.env) fp xe) ifs (tt W'))
    (he : ∀ (s : Shared) (H : Hp) (C : Addr) (cl : List (Str × Addr)) (fp : List Addr) (xe : Value → Shared → Prop) (W' : WX), L2N.Takes (blkR X s H scope (compEnvC scope cl C X.env) fp xe) W' → PassesOwn (model X.prog X.w) X.A (compEnvC scope cl C X.env) xe → PE (blkR X s H scope (compEnvC scope cl C X.env) fp xe) elt (te W'))
    (hs : ∀ x, foldedSetIterable iter X.env x = pure x := by intro _; rfl) :
    PE X (.ListComp elt [⟨tg, iter, ifs, 0⟩] scope pos) (fun σ H Q => tLc wi g (tt (Wat W σ)) (te (Wat W σ)) (own.map (·.2)) σ H Q) := by
  refine ⟨fun pins s σ H Q I h => ?_⟩
  rw [eval_ListComp]
  have hfree : ∀ y ∈ scope.names, y.2 = .free → ∃ c, X.env.cells.lookup y.1 = some c := fun y hy e => by
    rcases ok.free y hy e with k | k
    · exact I.ok.has _ (.inl k)
    · exact I.ok.has _ (.inr k)
  refine comprehension_at (use := none) rfl hs (closure_ok hfree) ok.kind (fun y hy e => by rw [ok.uniq y hy, e])
    (thn (hi.run pins s σ H _ I h) fun xv s1 hx => thn hx fun itv s2 h2 => ?_)
  obtain ⟨it, fp, tn, J, H2, e, I2, T, st2, f2, q⟩ := h2
  subst e
  refine wpAny_newObj_type (newEnv_comp ?_) (by show 0 ≤ sizeLine; decide)
  generalize hD : s2.heap.objs.size = D
  have hDn : H2 D = none := I2.hok.fresh (Nat.le_of_eq hD)
  obtain ⟨Wt, ⟨m0, w0⟩, turn⟩ := q D hDn
  -- the new list
  generalize hs3 : ({ s2 with heap := s2.heap.push { cls := .type "list", data := .seq ([] : List Value).toArray } } : Shared) = s3
  have I3 : Inv X pins σ (upd H2 D (.lst [])) s3 := by
    rw [← hs3]
    refine I2.laid (t' := s2.toks) (fun b o e => Heap.get?_push_of_some _ e) (Nat.le_of_eq hD) ⟨Nat.zero_le _, [], 0, .nil, ?_⟩
    rw [← hD]
    exact Heap.get?_push_size _ rfl
  have h3 : s3.heap = s2.heap.push { cls := .type "list", data := .seq ([] : List Value).toArray } := by rw [← hs3]
  have sz : ∀ b ∈ fp, b < s2.heap.objs.size := fun b hb => by
    obtain ⟨o, e, _⟩ := T.obj _ _ st2 b hb
    exact Heap.lt_size e
  have f3 : ∀ b ∈ fp, FpOk X pins (upd H2 D (.lst [])) b ∧ b < s3.heap.objs.size := fun b hb => by
    have hlt := sz b hb
    refine ⟨⟨?_, (f2 b hb).2⟩, by rw [h3, Heap.size_push]; exact Nat.lt_succ_of_lt hlt⟩
    rw [upd_ne (by rw [← hD]; exact Nat.ne_of_lt hlt)]
    exact (f2 b hb).1
  have st3 : tn 0 s3.heap := T.keep _ _ _ st2 fun b _ o e => by rw [h3]; exact Heap.get?_push_of_some _ e
  have I4 := block_start I3 ok hN f3
  have pg := hg s3 (upd H2 D (.lst [])) s3.heap.objs.size (cellsFrom (s3.heap.objs.size + 1) scope.names (cloFrom X.env.cells scope.names [])) fp
  have pt := ht s3 (upd H2 D (.lst [])) s3.heap.objs.size (cellsFrom (s3.heap.objs.size + 1) scope.names (cloFrom X.env.cells scope.names [])) fp
  have pe := he s3 (upd H2 D (.lst [])) s3.heap.objs.size (cellsFrom (s3.heap.objs.size + 1) scope.names (cloFrom X.env.cells scope.names [])) fp
  show codeAny _ _ (.compStart (.ListComp elt [⟨tg, iter, ifs, 0⟩] scope pos) 0 (.ref it) (.ref D) (compEnvC scope (cellsFrom (s3.heap.objs.size + 1) scope.names (cloFrom X.env.cells scope.names [])) s3.heap.objs.size X.env)) (compEnds (model X.prog X.w) X.A X.xe none (EP X pins σ Q) (.ref D) (compEnvC scope (cellsFrom (s3.heap.objs.size + 1) scope.names (cloFrom X.env.cells scope.names [])) s3.heap.objs.size X.env)) { s3 with heap := pushCells (s3.heap.push { cls := .type "dict", data := .dict #[] }) scope.names }
  have nfp : ∀ b ∈ fp, (upd H2 D (.lst [])) b = none := fun b hb => (f3 b hb).1.1
  generalize hce : compEnvC scope (cellsFrom (s3.heap.objs.size + 1) scope.names (cloFrom X.env.cells scope.names [])) s3.heap.objs.size X.env = ce at I4 pg pt pe ⊢
  have cL : ce.locals = s3.heap.objs.size := by subst hce; rfl
  have hcf : ce.frame = X.env.frame := by subst hce; rfl
  generalize hH3 : upd H2 D (.lst []) = H3 at I3 I4 pg pt pe w0 nfp f3
  generalize hs4 : ({ s3 with heap := pushCells (s3.heap.push { cls := .type "dict", data := .dict #[] }) scope.names } : Shared) = s4 at I4 ⊢
  have tkb := takesR hst hf tk I3 (fun b hb => (f3 b hb).1) hcf cL (scope := scope)
  generalize hxe : notedBy (model X.prog X.w) X.A ce (CompFails (model X.prog X.w) X.A X.xe ce) = xe at tkb
  have hpo : PassesOwn (model X.prog X.w) X.A ce xe := by rw [← hxe]; exact PassesOwn.looking
  have pg := pg xe
  have pt := pt xe _ tkb hpo
  have pe := pe xe _ tkb hpo
  have st4 : tn 0 s4.heap := T.keep _ _ _ st3 fun b _ o e => by rw [← hs4]; exact pushCells_keeps _ _ _ _ (Heap.get?_push_of_some _ e)
  have stat : ∀ {σ' : St} {H' : Hp} {s' : Shared}, Inv (blkR X s3 H3 scope ce fp xe) [] σ' H' s' → (∀ b ∈ fp, H' b = none) → ∀ b ∈ fp, FpOk (blkR X s3 H3 scope ce fp xe) [] H' b := fun {σ' H' s'} I' hn b hb =>
    ⟨hn b hb, (I'.ok.exf b hb).1, I'.ok.exfs b hb, .inl hb, fun x c e => (I'.ok.exf b hb).2 x c e, fun p hp => absurd (show p ∈ ([] : List (Addr × Obj)) ++ [] from hp) (by simp)⟩
  have I4 := invR (xe := xe) I4
  have xr : ∀ {α : Type} {t : Sem α} {Q1 Q2 : α → Shared → Prop} {s : Shared}, wpAny (model X.prog X.w) X.A t Q1 xe s → (∀ a s, Q1 a s → Q2 a s) → wpAny (model X.prog X.w) X.A t Q2 (notedBy (model X.prog X.w) X.A ce fun e s' => compEnds (model X.prog X.w) X.A X.xe none (EP X pins σ Q) (.ref D) ce (.error e) s') s := fun {α t Q1 Q2 s} a b => wpAny_mono a b fun e s' z => by rw [← hxe] at z; exact z
  have loop : codeAny (model X.prog X.w) X.A (.compLoop (.ListComp elt [⟨tg, iter, ifs, 0⟩] scope pos) 0 (.ref it) (.ref D) ce) (compEnds (model X.prog X.w) X.A X.xe none (EP X pins σ Q) (.ref D) ce) s4 := by
    refine compLoop_any (fun n s' => ∃ i H', Inv (blkR X s3 H3 scope ce fp xe) [] (wipe σ (own.map (·.2))) H' s' ∧ tn i s'.heap ∧ (∀ b ∈ fp, H' b = none) ∧ Wt i n H') ?_ m0 ⟨0, H3, I4, st4, nfp, w0⟩
    rintro n s5 ⟨i, H5, I5, st5, n5, w5⟩
    rcases turn i n H5 w5 with ⟨stop, qq⟩ | ⟨go, Nx, hNx, step⟩
    · have td := T.done (blkR X s3 H3 scope ce fp xe) rfl rfl rfl hc i [] s5 _ H5 (fun _ _ => False) I5 (stat I5 n5) st5 stop
      refine thnF td fun r s6 ⟨hr, I6⟩ => ?_
      subst hr
      -- back in the def's context
      have I7 : Inv X pins σ H5 s6 := I3.call' (ch := fp) I6.os I6.base I6.hok I6.bare fun b hb => ⟨(f3 b hb).1.2.2.2.1, (f3 b hb).1.2.1, (f3 b hb).1.2.2.2.2.1, (f3 b hb).1.2.2.2.2.2⟩
      have nC : H5 s3.heap.objs.size = none := by
        have z : H5 ce.locals = none := I6.free
        rw [cL] at z
        exact z
      obtain ⟨m, hn, _⟩ := I6.loc
      have hn : s6.heap.Ns ce.locals m := hn
      have fC := I3.fpOk (Nat.le_refl _) nC
      obtain ⟨f0, f1, f2, f3, f4, f5⟩ := fC
      refine ⟨m, hn, fun h'' sb => ?_⟩
      rw [cL] at sb
      exact ⟨.ref D, H5, I7.turned (t' := s6.toks) (fun b o hb e => (sb.2 b hb).trans e) f0 f1 f3 f4 f5, rfl, qq⟩
    · have ti := T.item (blkR X s3 H3 scope ce fp xe) rfl rfl rfl hc i [] s5 _ H5 (fun _ _ => False) I5 (stat I5 n5) st5 go
      refine thnF ti fun r s6 ⟨u, hr, h6⟩ => ?_
      subst hr
      refine thnF h6 fun _ s7 ⟨x, H7, I7, r7, y7, st7, n7⟩ => ?_
      have I7' := I7.pinned (stat I7 n7) (T.obj _ _ st7)
      refine xr (pg.run _ s7 _ H7 x u _ I7' r7 (step x H7 y7)) fun _ s8 ⟨σ8, H8, I8, hw8, q8⟩ => ?_
      refine xr (pt.run _ s8 σ8 H8 _ I8 q8) fun b s9 ⟨H9, I9, q9⟩ => ?_
      -- the turn's end
      have fin : ∀ {s' : Shared} {H' : Hp}, Inv (blkR X s3 H3 scope ce fp xe) ([] ++ pinsAt fp s7.heap) σ8 H' s' → Nx H' → ∃ m, m < n ∧ ∃ i H', Inv (blkR X s3 H3 scope ce fp xe) [] (wipe σ (own.map (·.2))) H' s' ∧ tn i s'.heap ∧ (∀ b ∈ fp, H' b = none) ∧ Wt i m H' := fun {s' H'} I' nx => by
        obtain ⟨m', hm, w'⟩ := hNx H' nx
        have pin' : ∀ b ∈ fp, ∀ o, s7.heap.get? b = some o → s'.heap.get? b = some o ∧ H' b = none := fun b hb o e =>
          let z := I'.pin (b, o) (List.mem_append_right _ (List.mem_append_right _ (mem_pinsAt hb e)))
          ⟨z.1, z.2.1⟩
        have hl : (wipe σ (own.map (·.2))).length = σ8.length := by rw [← hw8, wipe_length]
        refine ⟨m', hm, i + 1, H', (I'.unpinned (pins := [])).weak hl (fun j v e => ?_), T.keep _ _ _ st7 fun b hb o e => (pin' b hb o e).1, fun b hb => ?_, w'⟩
        · rw [← hw8] at e
          exact (wipe_some e).1
        · obtain ⟨o, e, _⟩ := T.obj _ _ st7 b hb
          exact (pin' b hb o e).2
      cases b with
      | false =>
        simp only [Bool.false_eq_true, if_false] at q9 ⊢
        exact fin I9 q9
      | true =>
        simp only [if_true] at q9 ⊢
        refine xr (pe.run _ s9 σ8 H9 _ I9 q9) fun z s10 ⟨yv, H10, I10, r10, acc, hD10, hz10, nx⟩ => ?_
        exact app_ok (X := blkR X s3 H3 scope ce fp xe) I10 hD10 hz10 r10 fun s11 I11 => fin I11 nx
  exact codeAny_compStart_list loop (T.self X.A 0 _ _ _ st4 loop)
end

section
variable {X : Cx} {W : WX} {B Ω : List Nat} {k : Nat} {tg iter elt : Expr} {pos p : Pos} {g : TG} {is : List Nat} {bnd : D → Env → Option Env} {gi : Env → R (List D)} {gt : Env → R Bool} {ge : Env → R D}
/-- a comprehension whose element or test may raise -/
def lcR (bnd : D → Env → Option Env) (gt : Env → R Bool) (ge : Env → R D) (ρ : Env) : List D → R (List D)
  | [] => .ok []
  | d :: ds => match bnd d ρ with
    | none => .stuck
    | some ρ' => match gt ρ' with
      | .ok true => match ge ρ' with
        | .ok y => (lcR bnd gt ge ρ ds).bind fun ys => .ok (y :: ys)
        | .exc n => .exc n
        | .stuck => .stuck
      | .ok false => lcR bnd gt ge ρ ds
      | .exc n => .exc n
      | .stuck => .stuck
def xLcR (ws : List Nat) (gi : Env → R (List D)) (bnd : D → Env → Option Env) (gt : Env → R Bool) (ge : Env → R D) : Env → R D := fun ρ => (gi ρ).bind fun ds => if ds.length ≤ sizeLine then (lcR bnd gt ge (wipeE ρ ws) ds).bind fun ys => .ok (.list ys) else .stuck
theorem lcR_run {K : Fr} {mg : Str → Option Value} {ws : List Nat} {σ : St} {H : Hp} {Q : VK} (hsub : ∀ i ∈ is, i ∈ ws) (hown : ∀ i ∈ ws, i ∉ Ω)
    (use : TgU K B Ω g is bnd)
    (h : tO K mg W B Ω (xLcR ws gi bnd gt ge) σ H Q) : tLc (tIc K mg W B Ω gi) g (tT K mg (Wat W σ) B Ω gt) (tX K mg (Wat W σ) B Ω ge) ws σ H Q := by
  obtain ⟨H0, O0, O, ρ, S, h⟩ := h
  refine ⟨H0, O0, O, ρ, S, Good.bind h fun ds J H1 e1 s1 it h1 => ?_⟩
  split at h1
  case isFalse => exact h1.elim
  rename_i hlen
  intro A hA
  have S1 := S.same s1
  generalize ez : lcR bnd gt ge (wipeE ρ ws) ds = r0 at h1
  have hAO : A ∉ O := fun z => S1.trk A z hA
  have hA0 : H0 A = none := free_back S1.keep hA
  have nst : r0 ≠ .stuck := fun z => by rw [z] at h1; exact h1
  have nex : ∀ {n : Str} {C : Addr} {H' : Hp}, r0 = .exc n → mg n = some (Value.ref C) → Same H1 H' → W (.ref C) none σ H' := fun {n C H'} z m s => by
    rw [z] at h1; exact h1 C H' m s
  let P : Nat → Hp → Prop := fun i H' => Same H1 H' ∧ Stt K H0 O0 B Ω (A :: O) H' (wipe σ ws) (wipeE ρ ws) ∧ ∃ acc ys, H' A = some (.lst acc) ∧ RpAll K (A :: O) H' acc ys ∧ ys.length ≤ i ∧ r0 = (lcR bnd gt ge (wipeE ρ ws) (ds.drop i)).bind fun rest => .ok (ys ++ rest)
  have bnil : ∀ r : R (List D), (r.bind fun rest => R.ok ([] ++ rest)) = r := fun r => by cases r <;> rfl
  have p0 : P 0 (upd H1 A (.lst [])) := ⟨same_upd hA, (S1.wipe ws).watch (same_upd hA) hA (by rw [upd_same]; simp), [], [], upd_same, .nil, Nat.le_refl _, by rw [bnil, List.drop_zero, ez]⟩
  have hno : ∀ (σ' : St), (∀ j ∈ Ω, σ'[j]? = (wipe σ ws)[j]?) → ∀ j ∈ Ω, σ'[j]? = some (some (V.ref A)) → ∀ d, ρ[j]? = some (some d) → False := fun σ' hs j hj e d ed => by
    rw [hs j hj, wipe_get, if_neg (fun z => hown j z hj)] at e
    exact hAO (S1.owR j d ed hj e).1
  refine ⟨fun i m H' => m = ds.length - i ∧ i ≤ ds.length ∧ P i H', ⟨ds.length, by omega, Nat.zero_le _, p0⟩, ?_⟩
  rintro i m H' ⟨rfl, hi, ss, SP, acc, ys, hacc, hys, hyl, hz⟩
  have stp : Step O H1 (A :: O) H' := ⟨Ge.of_same ss, fun a ha => (List.mem_cons.mp ha).elim (fun z => .inr (z ▸ hA)) .inl⟩
  obtain ⟨go, stop⟩ := it (A :: O) H' ss stp SP.trk
  by_cases hlt : i < ds.length
  · have ed : ds[i]? = some ds[i] := List.getElem?_eq_getElem hlt
    obtain ⟨g1, g2⟩ := go i _ ed
    refine .inr ⟨g1, P (i + 1), fun H2 p => ⟨ds.length - (i + 1), by omega, rfl, hlt, p⟩, fun x H2 y => ?_⟩
    obtain ⟨sy, rx⟩ := g2 x H2 y
    have hdrop : ds.drop i = ds[i] :: ds.drop (i + 1) := List.drop_eq_getElem_cons hlt
    rw [hdrop] at hz
    unfold lcR at hz
    split at hz
    · exact absurd hz nst
    rename_i ρ' eb
    refine use (SP.same sy) rx eb fun σ' S' hw ho => ?_
    have hw2 : wipe σ' ws = wipe σ ws := by
      rw [hw ws hsub]
      apply List.ext_getElem?
      intro j
      rw [wipe_get, wipe_get, wipe_length]
      split <;> rfl
    refine ⟨hw2, ?_⟩
    have ssy := Same.tr ss sy
    split at hz
    · -- kept
      rename_i egt
      refine ⟨H0, O0, A :: O, ρ', S', ?_⟩
      rw [egt]
      intro b H3 s3 eb3
      have eb3 : b = true := eb3
      subst eb3
      simp only [if_true]
      refine ⟨H0, O0, A :: O, ρ', S'.same s3, ?_⟩
      split at hz
      · rename_i yv ege
        rw [ege]
        intro yw H4 s4 r4
        have s24 := Same.tr (Same.tr sy s3) s4
        have hacc4 : H4 A = some (.lst acc) := s24 A _ hacc
        have hl := hys.length
        refine ⟨acc, hacc4, by omega, fun a o e => ?_, (SP.same s24).chg List.mem_cons_self hA0 (fun j hj d' eρ e => ?_), acc ++ [yw], ys ++ [yv], upd_same, ?_, by simp; omega, ?_⟩
        · have : a ≠ A := fun z => by rw [z, hA] at e; cases e
          rw [upd_ne this]
          exact s24 a o (ss a o e)
        · exact hno (wipe σ ws) (fun _ _ => rfl) j hj e d' (wipeE_get eρ)
        · have ge2 : Ge (A :: O) H4 (upd H4 A (.lst (acc ++ [yw]))) := fun a u ha e => by rw [upd_ne (fun z => ha (by rw [z]; exact List.mem_cons_self))]; exact e
          exact ((hys.same s24).ge ge2).append (RpAll.one (r4.ge ge2))
        · rw [hz]
          cases lcR bnd gt ge (wipeE ρ ws) (ds.drop (i + 1)) with
          | ok rest => show R.ok _ = R.ok _; simp
          | exc n => rfl
          | stuck => rfl
      · rename_i n ege
        rw [ege]
        exact fun C H4 m s4 => nex hz m (Same.tr (Same.tr ssy s3) s4)
      · exact absurd hz nst
    · -- left out
      rename_i egt
      refine ⟨H0, O0, A :: O, ρ', S', ?_⟩
      rw [egt]
      intro b H3 s3 eb3
      have eb3 : b = false := eb3
      subst eb3
      have s23 := Same.tr sy s3
      exact ⟨Same.tr ss s23, SP.same s23, acc, ys, s23 A _ hacc, hys.same s23, by omega, hz⟩
    · rename_i n egt
      refine ⟨H0, O0, A :: O, ρ', S', ?_⟩
      rw [egt]
      exact fun C H4 m s4 => nex hz m (Same.tr ssy s4)
    · exact absurd hz nst
  · have e : i = ds.length := by omega
    subst e
    rw [List.drop_length] at hz
    have hz : r0 = .ok (ys ++ []) := hz
    rw [List.append_nil] at hz
    rw [hz] at h1
    have h1 : Good mg W σ (RelO K O H) H1 (.ok (.list ys)) Q := h1
    refine .inl ⟨stop, h1 _ H' ss (.inr ⟨A, rfl, free_back s1 hA, acc, hacc, hys⟩)⟩
theorem Gd.blkR {X : Cx} {W W' : WX} {k : Nat} (g : Gd X W k) {s : Shared} {H : Hp} {scope : Scope} {cenv : PySem.Env} {fp : List Addr} {xe : Value → Shared → Prop} (tk : L2N.Takes (blkR X s H scope cenv fp xe) W') (hp : PassesOwn (model X.prog X.w) X.A cenv xe) : Gd (MV.blkR X s H scope cenv fp xe) W' k where
  tk := tk
  hp := hp
  hc := g.hc
  nd := g.nd
  hr := g.hr
theorem po_lcR {scope : Scope} {own : List (Str × Nat)} {ifs : List Expr} (G : Gd X W k) (hst : X.stack = X.env :: X.outer) (hf : X.env.frame = some X.env.locals) (hi : PIc X W B Ω tg iter gi) (ok : BlkOk X.N X.env.scope scope own) (u : TgU X.fr B Ω g is bnd) (hsub : is.all ((own.map (·.2)).contains ·) = true) (hown : (own.map (·.2)).all (fun i => !Ω.contains i) = true)
    (hg : ∀ (s : Shared) (H : Hp) (C : Addr) (cl : List (Str × Addr)) (fp : List Addr) (xe : Value → Shared → Prop), PG (MV.blkR X s H scope (compEnvC scope cl C X.env) fp xe) tg g)
    (ht : ∀ (s : Shared) (H : Hp) (C : Addr) (cl : List (Str × Addr)) (fp : List Addr) (xe : Value → Shared → Prop) (W' : WX), Gd (MV.blkR X s H scope (compEnvC scope cl C X.env) fp xe) W' k → PTsx (MV.blkR X s H scope (compEnvC scope cl C X.env) fp xe) W' B Ω ifs gt)
    (he : ∀ (s : Shared) (H : Hp) (C : Addr) (cl : List (Str × Addr)) (fp : List Addr) (xe : Value → Shared → Prop) (W' : WX), Gd (MV.blkR X s H scope (compEnvC scope cl C X.env) fp xe) W' k → PX (MV.blkR X s H scope (compEnvC scope cl C X.env) fp xe) W' B Ω elt ge) (hs : ∀ x, foldedSetIterable iter X.env x = pure x := by intro _; rfl) :
    PO X W B Ω (.ListComp elt [⟨tg, iter, ifs, 0⟩] scope pos) (xLcR (own.map (·.2)) gi bnd gt ge) :=
  PE.imp (pe_lcR (tt := fun W' => tT X.fr X.mg W' B Ω gt) (te := fun W' => tX X.fr X.mg W' B Ω ge) hst hf G.tk G.hc G.nd hi ok hg (fun s H C cl fp xe W' tk hp => ht s H C cl fp xe W' (G.blkR tk hp)) (fun s H C cl fp xe W' tk hp => he s H C cl fp xe W' (G.blkR tk hp)) hs) fun σ H Q h => lcR_run (fun i hi => by simpa using List.all_eq_true.mp hsub i hi) (fun i hi => by simpa using List.all_eq_true.mp hown i hi) u h
@[simp] theorem xLcR_e {ws : List Nat} {ρ : Env} : xLcR ws gi bnd gt ge ρ = (gi ρ).bind fun ds => if ds.length ≤ sizeLine then (lcR bnd gt ge (wipeE ρ ws) ds).bind fun ys => .ok (.list ys) else .stuck := (rfl)
end
end MV

set_option Elab.async false
set_option linter.all false
set_option maxRecDepth 100000
set_option maxHeartbeats 4000000
namespace MV
open PySem L2
/-! ### an atom handed back where an own thing may be -/
section
variable {X : Cx} {W : WX} {B Ω : List Nat} {e : Expr}
theorem PX.oA {c : D} (h : PX X W B Ω e (xC c)) (ha : atomD c = true) : PO X W B Ω e (xC c) := PE.imp h fun σ H Q ⟨H0, O0, O, ρ, S, h⟩ => ⟨H0, O0, O, ρ, S, fun v H' s r => h v H' s (.inl ⟨ha, r⟩)⟩
end
theorem suite_ofA {Y : Cx} {i : Nat} {a : Addr} {sts : List Stmt} {w : V} {dd : D} {K : Fr} {mg : Str → Option Value} {B Ωl Ω' : List Nat} (h : PSr Y (ExcAt i a) sts w) (hw : ∀ O H, Rp K O H w dd) (ha : atomD dd = true) :
    PSs Y sts (fun Dn σ H => σ[i]? = some (some (.ref a)) ∧ tY K mg W0 true B Ωl [] Ω' (fun _ => .ret dd) Dn σ H) :=
  PSs.imp h fun Dn σ H ⟨hσ, H0, O0, O, ρ, S, r⟩ => ⟨hσ, fun H' s' => r _ _ (Same.tr S.keep s') (.inl ⟨ha, hw _ _⟩)⟩
theorem suite_eqA {Y : Cx} {i : Nat} {a : Addr} {sts : List Stmt} {K : Fr} {mg : Str → Option Value} {B Ωl Ω' : List Nat} {f g : YF} (e : f = g)
    (h : PSs Y sts (fun Dn σ H => σ[i]? = some (some (.ref a)) ∧ tY K mg W0 true B Ωl [] Ω' g Dn σ H)) :
    PSs Y sts (fun Dn σ H => σ[i]? = some (some (.ref a)) ∧ tY K mg W0 true B Ωl [] Ω' f Dn σ H) := by rw [e]; exact h
end MV

set_option Elab.async false
set_option linter.all false
set_option maxRecDepth 100000
set_option maxHeartbeats 4000000
namespace MV
open PySem L2
/-! ### suites that hand back a new tuple -/
def New (H H' : Hp) (v : V) (d : D) : Prop := ∀ (K : Fr) (O : List Addr), (∀ a ∈ O, H a ≠ none) → Rp K O H' v d
def PSn (Y : Cx) (P : St → Hp → Prop) (sts : List Stmt) (dd : D) : Prop := PSs Y sts (fun Dn σ H => P σ H ∧ ∀ v H', Same H H' → New H H' v dd → Dn.rt v H')
def PEn (Y : Cx) (P : St → Hp → Prop) (e : Expr) (dd : D) : Prop := PE Y e (fun σ H Q => P σ H ∧ ∀ v H', Same H H' → New H H' v dd → Q v H')
def PAn (Y : Cx) (P : St → Hp → Prop) (es : List Expr) (ds : List D) : Prop := PA Y es (fun σ H Q => P σ H ∧ ∀ vs H', Same H H' → (∀ (K : Fr) (O : List Addr), (∀ a ∈ O, H a ≠ none) → RpAll K O H' vs ds) → Q vs H')
theorem trk_same {H H' : Hp} {O : List Addr} (s : Same H H') (h : ∀ a ∈ O, H a ≠ none) : ∀ a ∈ O, H' a ≠ none := fun a ha e => by
  cases q : H a with
  | none => exact h a ha q
  | some u => rw [s a u q] at e; cases e
section
variable {X : Cx} {P : St → Hp → Prop} {a e : Expr} {es : List Expr} {u : Bool} {pos p : Pos} {dd : D} {ds : List D} {w : V}
theorem pen_b (h : PEb X P e u) : PEn X P e (.bool u) := PE.imp h fun σ H Q ⟨hP, q⟩ => ⟨hP, q _ _ Same.refl fun K O _ => .bl u⟩
theorem pen_c (h : PE X e (tC w)) (hw : ∀ (K : Fr) O H, Rp K O H w dd) : PEn X P e dd := PE.imp h fun σ H Q ⟨_, q⟩ => q _ _ Same.refl fun K O _ => hw K O H
theorem pan_nil : PAn X P [] [] := PA.imp' pa_nil fun σ H Q ⟨_, h⟩ => h _ _ Same.refl fun K O _ => .nil
theorem pan_cons (hst : ∀ σ H H', Same H H' → P σ H → P σ H') (ha : PEn X P a dd) (hr : PAn X P es ds) (hs : starEach (a :: es) X.env = (false, eval a X.env) :: starEach es X.env := by rfl) : PAn X P (a :: es) (dd :: ds) :=
  PA.imp' (pa_cons ha hr hs) fun σ H Q ⟨hP, h⟩ => ⟨hP, fun v H1 s1 r1 => ⟨hst σ H H1 s1 hP, fun vs H2 s2 r2 => h _ _ (Same.tr s1 s2) fun K O ht => .cons ((r1 K O ht).same s2) (r2 K O (trk_same s1 ht))⟩⟩
theorem psn_tup {x1 tp} (hl : PAn X P es ds) (hz : ds.length ≤ sizeLine) : PSn X P [.Return (some (.Tuple es x1 tp)) pos] (.tuple ds) :=
  PSs.imp (pss_one (ps_ret (pe_tup hl))) fun Dn σ H ⟨hP, h⟩ => ⟨hP, fun vs H' s r => by
    have hlen : vs.length = ds.length := (r ⟨[], X.prog, X.w, X.mg⟩ [] (by simp)).length
    refine ⟨by rw [hlen]; exact hz, fun q hq => h _ _ (Same.tr s (same_upd hq)) fun K O ht => ?_⟩
    have hqO : q ∉ O := fun z => ht q z (free_back s hq)
    exact .tup ⟨hqO, upd_same⟩ ((r K O ht).same (same_upd hq))⟩
theorem psn_ret (he : PEb X P e u) : PSn X P [.Return (some e) pos] (.bool u) := PSs.imp (pss_one (ps_ret he)) fun Dn σ H ⟨hP, h⟩ => ⟨hP, h _ _ Same.refl fun K O _ => .bl u⟩
/-- o + [..] -/
theorem pen_cat {i o : Nat} {ai : Addr} {x : Str} {bs cs : List Bool} {lp p2 bp : Pos} (ho : X.N[o]? = some x) (hv : Vis X.env.scope x) (hd : (x == ("__debug__" : Str)) = false) (hcd : (x == ("__classdict__" : Str)) = false)
    (hl : PAb X (OthAt i ai o bs) es cs) (hz : cs.length ≤ sizeLine) (hz2 : bs.length + cs.length ≤ sizeLine) : PEn X (OthAt i ai o bs) (.BinOp (.Name x p2) .Add (.List es lp) bp) (.list ((bs ++ cs).map .bool)) :=
  PE.imp (pe_op op_cat (pv o ho hv hd hcd) (pe_lst hl)) fun σ H Q ⟨⟨h1, q, e1, e2⟩, h⟩ => ⟨.ref q, e1, ⟨h1, q, e1, e2⟩, by simpa using hz, fun p hp => by
    have hqp : q ≠ p := fun z => by rw [z, hp] at e2; cases e2
    refine ⟨q, p, bs.map .bl, cs.map .bl, rfl, rfl, (upd_ne hqp).trans e2, upd_same, by simpa using hz2, fun p2 hp2 => ?_⟩
    have s2 := Same.tr (same_upd (o := .lst (cs.map .bl)) hp) (same_upd (o := .lst (bs.map V.bl ++ cs.map .bl)) hp2)
    refine h _ _ s2 fun K O ht => .lst ⟨fun z => ht p2 z (free_back (same_upd hp) hp2), .inl upd_same⟩ ?_
    have key : ∀ (H : Hp) (l : List Bool), RpAll K O H (l.map V.bl) (l.map PyData.bool) := fun H l => by
      induction l with
      | nil => exact .nil
      | cons b l ih => exact .cons (.bl b) ih
    have e := key (upd (upd H p (.lst (cs.map .bl))) p2 (.lst (bs.map V.bl ++ cs.map .bl))) (bs ++ cs)
    rw [List.map_append (f := V.bl)] at e
    exact e⟩
/-- [..], a new list of truths -/
theorem pen_lst {cs : List Bool} {lp : Pos} (hl : PAb X P es cs) (hz : cs.length ≤ sizeLine) : PEn X P (.List es lp) (.list (cs.map .bool)) :=
  PE.imp (pe_lst hl) fun σ H Q ⟨h1, h⟩ => ⟨h1, by simpa using hz, fun p hp => h _ _ (same_upd hp) fun K O ht => .lst ⟨fun z => ht p z hp, .inl upd_same⟩ (by
    induction cs with
    | nil => exact .nil
    | cons b l ih =>
      have : ∀ (l : List Bool) (H : Hp), RpAll K O H (l.map V.bl) (l.map PyData.bool) := fun l H => by
        induction l with
        | nil => exact .nil
        | cons b l ih => exact .cons (.bl b) ih
      exact this _ _)⟩
end
/-- o = [..] -/
theorem psn_set {X : Cx} {i o : Nat} {ai : Addr} {x : Str} {es : List Expr} {bs : List Bool} {sts : List Stmt} {w : D} {pos lp p' : Pos} (hN : X.N.Nodup) (ho : X.N[o]? = some x) (hx : Loc X.env.scope x) (ne : i ≠ o) (hl : PAb X (ExcAt i ai) es bs) (hz : bs.length ≤ sizeLine)
    (hs : swapsWith (.List es lp) (some (.Name x p')) pos.line X.env = pure false := by rfl) (hf : X.fn x = true ∨ X.env.scope.names.lookup x = some .local := by first | exact .inl rfl | exact .inr rfl)
    (hr : PSn X (OthAt i ai o bs) sts w) : PSn X (ExcAt i ai) (.Assign [.Name x p'] (.List es lp) pos :: sts) w := by
  refine ⟨fun pins s σ H D I h => ?_⟩
  have hlen : o < σ.length := by
    have := I.len
    have h2 : o < X.N.length := (List.getElem?_eq_some_iff.mp ho).1
    have h3 : σ.length = X.N.length := this
    omega
  refine (pss_cons (ps_set (i := o) hN ho hx (pe_lst hl) hs hf) hr).run pins s σ H D I ⟨h.1, by simpa using hz, fun p hp => ?_⟩
  exact ⟨⟨set_get h.1 ne, p, by rw [List.getElem?_set_self hlen], upd_same⟩, fun v H' s' r => h.2 v H' (Same.tr (same_upd hp) s') fun K O ht => r K O (trk_same (same_upd hp) ht)⟩
/-- o = o + [..] -/
theorem psn_add {X : Cx} {i o : Nat} {ai : Addr} {x : Str} {es : List Expr} {bs cs : List Bool} {sts : List Stmt} {w : D} {pos lp p' p2 bp : Pos} (hN : X.N.Nodup) (ho : X.N[o]? = some x) (hx : Loc X.env.scope x) (hv : Vis X.env.scope x) (hd : (x == ("__debug__" : Str)) = false) (hcd : (x == ("__classdict__" : Str)) = false) (ne : i ≠ o)
    (hl : PAb X (OthAt i ai o bs) es cs) (hz : cs.length ≤ sizeLine) (hz2 : bs.length + cs.length ≤ sizeLine)
    (hs : swapsWith (.BinOp (.Name x p2) .Add (.List es lp) bp) (some (.Name x p')) pos.line X.env = pure false := by rfl) (hf : X.fn x = true ∨ X.env.scope.names.lookup x = some .local := by first | exact .inl rfl | exact .inr rfl)
    (hr : PSn X (OthAt i ai o (bs ++ cs)) sts w) : PSn X (OthAt i ai o bs) (.Assign [.Name x p'] (.BinOp (.Name x p2) .Add (.List es lp) bp) pos :: sts) w := by
  refine ⟨fun pins s σ H D I h => ?_⟩
  have hlen : o < σ.length := by
    have := I.len
    have h2 : o < X.N.length := (List.getElem?_eq_some_iff.mp ho).1
    have h3 : σ.length = X.N.length := this
    omega
  obtain ⟨⟨h1, q, e1, e2⟩, h3⟩ := h
  refine (pss_cons (ps_set (i := o) hN ho hx (pe_op op_cat (pv o ho hv hd hcd) (pe_lst hl)) hs hf) hr).run pins s σ H D I ⟨.ref q, e1, ⟨h1, q, e1, e2⟩, by simpa using hz, fun p hp => ?_⟩
  have hqp : q ≠ p := fun z => by rw [z, hp] at e2; cases e2
  refine ⟨q, p, bs.map .bl, cs.map .bl, rfl, rfl, (upd_ne hqp).trans e2, upd_same, by simpa using hz2, fun p2 hp2 => ?_⟩
  refine ⟨⟨set_get h1 ne, p2, by rw [List.getElem?_set_self hlen], ?_⟩, fun v H' s' r => h3 v H' (Same.tr (Same.tr (same_upd hp) (same_upd hp2)) s') fun K O ht => r K O (trk_same (Same.tr (same_upd hp) (same_upd hp2)) ht)⟩
  rw [List.map_append]; exact upd_same
/-- a suite that hands back a new thing is the mirror's that returns it -/
theorem suite_ofN {Y : Cx} {i : Nat} {a : Addr} {sts : List Stmt} {dd : D} {K : Fr} {mg : Str → Option Value} {B Ωl Ω' : List Nat} (h : PSn Y (ExcAt i a) sts dd) :
    PSs Y sts (fun Dn σ H => σ[i]? = some (some (.ref a)) ∧ tY K mg W0 false B Ωl [] Ω' (fun _ => .ret dd) Dn σ H) :=
  PSs.imp h fun Dn σ H ⟨hσ, H0, O0, O, ρ, S, r⟩ => ⟨hσ, fun v H' s' q => r _ _ (Same.tr S.keep s') ((q K O S.trk).sub S.sub)⟩
end MV

set_option Elab.async false
set_option linter.all false
set_option maxRecDepth 100000
set_option maxHeartbeats 4000000
namespace MV
open PySem L2
/-- lists at addresses, one by one -/
inductive Lss (H : Hp) : List Addr → List (List V) → Prop
  | nil : Lss H [] []
  | cons {q : Addr} {xs : List V} {qs : List Addr} {xss : List (List V)} : H q = some (.lst xs) → Lss H qs xss → Lss H (q :: qs) (xs :: xss)
inductive SqLs (K : PySem.W.Frag) (H : Hp) : List V → List (List V) → Prop
  | nil : SqLs K H [] []
  | cons {q : Addr} {xs : List V} {vs : List V} {xss : List (List V)} : SqL K H q xs → SqLs K H vs xss → SqLs K H (.ref q :: vs) (xs :: xss)
theorem Lss.same {H H' : Hp} {qs : List Addr} {xss : List (List V)} (s : Same H H') (h : Lss H qs xss) : Lss H' qs xss := by
  induction h with
  | nil => exact .nil
  | cons h _ ih => exact .cons (s _ _ h) ih
theorem Lss.app {H : Hp} {qs : List Addr} {xss : List (List V)} {q : Addr} {xs : List V} (h : Lss H qs xss) (hq : H q = some (.lst xs)) : Lss H (qs ++ [q]) (xss ++ [xs]) := by
  induction h with
  | nil => exact .cons hq .nil
  | cons h _ ih => exact .cons h ih
theorem Lss.upd {H : Hp} {qs : List Addr} {xss : List (List V)} {a : Addr} {o : HO} (h : Lss H qs xss) (ha : a ∉ qs) : Lss (upd H a o) qs xss := by
  induction h with
  | nil => exact .nil
  | cons h _ ih =>
    simp only [List.mem_cons, not_or] at ha
    exact .cons ((upd_ne (Ne.symm ha.1)).trans h) (ih ha.2)
theorem SqLs.len {K : PySem.W.Frag} {H : Hp} {vs : List V} {xss : List (List V)} (h : SqLs K H vs xss) : vs.length = xss.length := by
  induction h with
  | nil => rfl
  | cons _ _ ih => simp [ih]
theorem SqLs.get {K : PySem.W.Frag} {H : Hp} {vs : List V} {xss : List (List V)} (h : SqLs K H vs xss) {i : Nat} {v : V} (e : vs[i]? = some v) : ∃ q xs, v = .ref q ∧ xss[i]? = some xs ∧ SqL K H q xs := by
  induction h generalizing i with
  | nil => simp at e
  | cons h _ ih =>
    cases i with
    | zero => simp at e; exact ⟨_, _, e.symm, rfl, h⟩
    | succ i => exact ih (by simpa using e)
/-- [list(x) for x in ..]: lists of one's own in a list of one's own -/
def tDC (K : PySem.W.Frag) (te : TE) : TE := fun σ H Q => te σ H fun v H1 => ∃ a vs xss, v = .ref a ∧ SqL K H1 a vs ∧ SqLs K H1 vs xss ∧ vs.length ≤ 1000 ∧
  ∀ A rs H', H1 A = none → (∀ r ∈ rs, H1 r = none ∧ r ≠ A) → rs.Nodup → Same H1 H' → H' A = some (.lst (rs.map V.ref)) → Lss H' rs xss → Q (.ref A) H'
theorem dc_run {K : PySem.W.Frag} {te : TE} {i : Nat} (mono : ∀ σ H (Q Q' : VK), te σ H Q → (∀ v H', Q v H' → Q' v H') → te σ H Q') {σ : St} {H : Hp} {Q : VK} (hil : i < σ.length) (h : tDC K te σ H Q) :
    tLc (iList K te) (gName i) tYes (tCB (fun xs H Q => ∃ p ys, xs = [.ref p] ∧ (SqL K H p ys ∨ SqT K H p ys) ∧ ∀ l, H l = none → Q (.ref l) (upd H l (.lst ys))) (tCons (tVar i) tNil)) [i] σ H Q := by
    refine mono σ H _ _ h fun v H1 ⟨a, vs, xss, ev, ha, hxs, hl, k⟩ => ?_
    refine ⟨a, ev, ⟨_, ha⟩, fun D hD => ?_⟩
    refine lc_list (a := a) (xs := vs) (fun n H2 => ∃ rs, Same H1 H2 ∧ H2 D = some (.lst (rs.map V.ref)) ∧ rs.length = n ∧ (∀ r ∈ rs, H1 r = none ∧ r ≠ D) ∧ rs.Nodup ∧ Lss H2 rs (xss.take n)) ?_ (fun n H2 _ ⟨rs, s2, _⟩ => s2.seq ha) ?_ ?_
    · exact ⟨[], same_upd hD, upd_same, rfl, by simp, List.nodup_nil, .nil⟩
    · rintro n y H2 hy ⟨rs, s2, e2, hn, hf, nd, ls⟩
      obtain ⟨q, xs, rfl, ex, hq⟩ := hxs.get hy
      refine ⟨?_, ?_⟩
      · show (wipe ((wipe σ [i]).set i (some (V.ref q))) [i]) = wipe σ [i]
        apply List.ext_getElem?
        intro j
        simp only [wipe, List.set_set]
      · simp only [tYes, if_true]
        refine ⟨.ref q, ?_, q, xs, rfl, .inl (s2.seq hq), fun l hl2 => ?_⟩
        · show ((wipe σ [i]).set i (some (V.ref q)))[i]? = _
          rw [List.getElem?_set_self (by rw [wipe_length]; exact hil)]
        · have hlD : l ≠ D := fun z => by rw [z, e2] at hl2; cases hl2
          have hlr : l ∉ rs := fun z => by
            have : ∃ xs, H2 l = some (.lst xs) := by
              clear hn e2 nd hf
              generalize xss.take n = ys at ls
              induction ls with
              | nil => cases z
              | cons h _ ih =>
                rcases List.mem_cons.mp z with rfl | z
                · exact ⟨_, h⟩
                · exact ih z
            obtain ⟨_, e⟩ := this
            rw [e] at hl2; cases hl2
          have hl1 : H1 l = none := free_back s2 hl2
          refine ⟨rs.map V.ref, by rw [upd_ne (Ne.symm hlD)]; exact e2, by rw [List.length_map, hn]; exact smallT (by have := (List.getElem?_eq_some_iff.mp hy).1; omega), rs ++ [l], ?_, ?_, by simp [hn], ?_, ?_, ?_⟩
          · intro b o eb
            have hb : b ≠ D := fun z => by rw [z, hD] at eb; cases eb
            rw [upd_ne hb, upd_ne (fun z => by rw [z, hl1] at eb; cases eb)]
            exact s2 b o eb
          · rw [upd_same, List.map_append]; rfl
          · intro r hr
            rcases List.mem_append.mp hr with hr | hr
            · exact hf r hr
            · rw [List.mem_singleton.mp hr]; exact ⟨hl1, hlD⟩
          · rw [List.nodup_append]
            exact ⟨nd, by simp, fun a ha b hb e => by rw [List.mem_singleton.mp hb] at e; exact hlr (e ▸ ha)⟩
          · have et : xss.take (n + 1) = xss.take n ++ [xs] := by
              rw [List.take_add_one, ex]; rfl
            rw [et]
            refine Lss.upd ((ls.upd hlr).app upd_same) (fun z => ?_)
            rcases List.mem_append.mp z with z | z
            · exact (hf D z).2 rfl
            · exact hlD (List.mem_singleton.mp z).symm
    · rintro H2 ⟨rs, s2, e2, hn, hf, nd, ls⟩
      rw [hxs.len, List.take_length] at ls
      exact k D rs H2 hD hf nd s2 e2 ls
theorem pe_dc {X : Cx} {iter : Expr} {te : TE} {x : Str} {i : Nat} {scope : Scope} {pos p p2 p3 cpos : Pos} (hc : X.calm = true) (hN : X.N.Nodup) (hi : X.N[i]? = some x) (he : PE X iter te) (mono : ∀ σ H (Q Q' : VK), te σ H Q → (∀ v H', Q v H' → Q' v H') → te σ H Q') (ok : BlkOk X.N X.env.scope scope [(x, i)])
    (hgt : ∀ (s : Shared) (H : Hp) (C : Addr) (cl : List (Str × Addr)) (fp : List Addr), PG (X.blk s H scope (compEnvC scope cl C X.env) fp) (.Name x p3) (gName i))
    (hel : ∀ (s : Shared) (H : Hp) (C : Addr) (cl : List (Str × Addr)) (fp : List Addr), PE (X.blk s H scope (compEnvC scope cl C X.env) fp) (.Call (.Name "list" p) [.Name x p2] [] cpos) (tCB (fun xs H Q => ∃ p ys, xs = [.ref p] ∧ (SqL X.K H p ys ∨ SqT X.K H p ys) ∧ ∀ l, H l = none → Q (.ref l) (upd H l (.lst ys))) (tCons (tVar i) tNil)))
    (hs : ∀ x, foldedSetIterable iter X.env x = pure x := by intro _; rfl) :
    PE X (.ListComp (.Call (.Name "list" p) [.Name x p2] [] cpos) [⟨.Name x p3, iter, [], 0⟩] scope pos) (fun σ H Q => i < σ.length ∧ tDC X.K te σ H Q) :=
  PE.imp (pe_lc hc hN (pi_list he) ok hgt (fun _ _ _ _ _ => pts_nil) hel hs) fun σ H Q ⟨hil, h⟩ => dc_run mono hil h
theorem ps_setDc {X : Cx} {o : Nat} {y : Str} {py spos : Pos} {iter : Expr} {te : TE} {x : Str} {i : Nat} {scope : Scope} {pos p p2 p3 cpos : Pos} (hy : X.N[o]? = some y) (hyl : X.env.scope.names.lookup y = some .local) (hsw : swapsWith (.ListComp (.Call (.Name "list" p) [.Name x p2] [] cpos) [⟨.Name x p3, iter, [], 0⟩] scope pos) (some (.Name y py)) spos.line X.env = pure true) (hc : X.calm = true) (hN : X.N.Nodup) (hi : X.N[i]? = some x) (he : PE X iter te) (mono : ∀ σ H (Q Q' : VK), te σ H Q → (∀ v H', Q v H' → Q' v H') → te σ H Q') (ok : BlkOk X.N X.env.scope scope [(x, i)])
    (hgt : ∀ (s : Shared) (H : Hp) (C : Addr) (cl : List (Str × Addr)) (fp : List Addr), PG (X.blk s H scope (compEnvC scope cl C X.env) fp) (.Name x p3) (gName i))
    (hel : ∀ (s : Shared) (H : Hp) (C : Addr) (cl : List (Str × Addr)) (fp : List Addr), PE (X.blk s H scope (compEnvC scope cl C X.env) fp) (.Call (.Name "list" p) [.Name x p2] [] cpos) (tCB (fun xs H Q => ∃ p ys, xs = [.ref p] ∧ (SqL X.K H p ys ∨ SqT X.K H p ys) ∧ ∀ l, H l = none → Q (.ref l) (upd H l (.lst ys))) (tCons (tVar i) tNil)))
    (hs : ∀ x, foldedSetIterable iter X.env x = pure x := by intro _; rfl) :
    PS X (.Assign [.Name y py] (.ListComp (.Call (.Name "list" p) [.Name x p2] [] cpos) [⟨.Name x p3, iter, [], 0⟩] scope pos) spos) (tAsg (fun σ H Q => i < σ.length ∧ tDC X.K te σ H Q) (gName o)) :=
  PS.imp (ps_setLc hc hN hy hyl hsw (pi_list he) ok hgt (fun _ _ _ _ _ => pts_nil) hel hs) fun D σ H ⟨hil, h⟩ => dc_run mono hil h
/-! ### classes: what the top has written -/
structure HM (K : PySem.W.Frag) (C : Addr) (m q : Str) (st : Stmt) (f : Addr) (fd : FuncData) (ps : List Str) : Prop where
  F : Fun K m q st f fd
  mt : Meth K C m f
  b : Binds K fd ps []
structure HD (K : PySem.W.Frag) (mg : Str → Option Value) (n : Str) (st : Stmt) (f : Addr) (fd : FuncData) (ps : List Str) : Prop where
  F : Fun K n n st f fd
  m : mg n = some (.ref f)
  k : PySem.W.keepIn K (.ref f) = true
  b : Binds K fd ps []
structure HC (K : PySem.W.Frag) (mg : Str → Option Value) (n : Str) (C : Addr) (as : List Str) : Prop where
  cl : Cls K C
  na : ∀ a ∈ as, NoAttr K C a
  g : mg n = some (.ref C)
  makes : PySem.W.makesIn K C = true
  kp : PySem.W.keepIn K (.ref C) = true
/-- what is known of a frame where nothing is own -/
theorem snap {K : Fr} {H : Hp} {σ : St} {ρ : MV.Env} (hl : σ.length = ρ.length) (h : ∀ (i : Nat) (d : D), ρ[i]? = some (some d) → ∃ v, σ[i]? = some (some v) ∧ Rp K [] H v d) : Stt K H [] [] [] [] H σ ρ where
  keep := Same.refl
  trk0 := by simp
  sub := by simp
  trk := by simp
  fz := fun i d e _ _ => h i d e
  bor := fun i d e _ hb => by simp at hb
  ow := fun i d e hi => by simp at hi
  dist := fun i hi => by simp at hi
  len := hl
end MV

set_option Elab.async false
set_option linter.all false
set_option maxRecDepth 100000
set_option maxHeartbeats 4000000
namespace MV
open PySem L2
section
variable {X : Cx} {pins : List (Addr × Obj)} {σ : St} {H : Hp} {s : Shared} {A : Around} {E : Value → Shared → Prop} {O : List Addr} {p : Addr} {es : List (PyData × V × V)} {kvs : List (D × D)} {k : D} {x v : V} {u r : Value}
theorem e_dictSet {Q : Unit → Shared → Prop} (hu : A.units + 64 < cLine) (I : Inv X pins σ H s) (e : H p = some (dR X.fr p es)) (rk : RpKv X.fr O H es kvs) (hk : dKind kvs k = true) (rx : Rs X.fr O H H x k) (ru : RelV x u) (rv : RelV v r) (hz : es.length < sizeLine)
    (h : ∀ s', Inv X pins σ (upd H p (dR X.fr p (putE es k x v))) s' → Q () s') : wpAny (model X.prog X.w) A (dictSet p u r) Q E s := by
  have hd := dr_get I e
  have hz' : (putE es k x v).length ≤ sizeLine := by have := length_putE es k x v; omega
  rcases dk_cases I e rk hk rx ru with ⟨h1, h2, h3, h4, vs, rr, dd⟩ | ⟨b, rfl, rfl, h3, h4, ys, rr, dd⟩
  · refine wpAny_dictSet_pairs (hsz := by rw [← rr.len]; omega) h3 dd fun h' dd' hs => h _ (e_write I e hs ?_)
    exact leaf_back (F := X.fr) hz' hd.2.1 (putE_nodup hd.2.2.1) (rr.put rv (hiL h1 h4)) dd' (put_leaf h1 h2 h4)
  · refine wpAny_dictSet_heap (hsz := by rw [← Paired.length rr]; omega) (show A.units + 8 < cLine by omega) h3 dd fun h' dd' hs => h _ (e_write I e hs ?_)
    exact tup_back (F := X.fr) hz' hd.2.1 (rr.put rv) dd'
end
/-- {a: b} -/
def tD1 (F : Fr) (ta tb : TE) : TE := fun σ H Q => ∀ p, H p = none → ta σ (upd H p (dR F p [])) fun x H1 => tb σ H1 fun y H2 => ∃ O k, H2 p = some (dR F p []) ∧ dKind [] k = true ∧ Rs F O H2 H2 x k ∧ Q (.ref p) (upd H2 p (dR F p [(k, x, y)]))
theorem pe_dict1 {X : Cx} {a b : Expr} {ta tb : TE} {pos : Pos} (hu : X.A.units + 64 < cLine) (ha : PE X a ta) (hb : PE X b tb)
    (hsh : (evalEachOpt [some a] X.env).zip ((evalEach [b] X.env).map fun v => do let x ← v; standAt pos; pure x) = [(eval a X.env, do let x ← eval b X.env; standAt pos; pure x)].map fun p => (some p.1, p.2) := by rfl) :
    PE X (.Dict [some a] [b] pos) (tD1 X.fr ta tb) := by
  refine ⟨fun pins s σ H Q I h => ?_⟩
  rw [arm_eval_Dict, hsh, dictDisplay_pairs _ (by simp) (by simp)]
  refine wpAny_bind (wpAny_standAt (wpAny_bind ?_))
  unfold subDict
  refine wpAny_bind (wpAny_alloc ?_)
  refine wpAny_bind (wpAny_holding ?_)
  rw [if_pos (by simp)]
  have hp : H s.heap.objs.size = none := I.hok.fresh (Nat.le_refl _)
  have I1 := I.laid (a := s.heap.objs.size) (o := dR X.fr s.heap.objs.size []) (t' := s.toks) (fun _ _ q => Heap.get?_push_of_some _ q) (Nat.le_refl _) (drok_ok (dr_empty X.fr s.heap I.big))
  refine wpAny_bind (evalPairs_cons (thn (ha.run pins _ σ _ _ I1 (h _ hp)) fun kv s1 ⟨x, H1, I2, rx, h1⟩ => ?_))
  refine wpAny_bind (thn (hb.run pins s1 σ H1 _ I2 h1) fun vv s2 ⟨y, H2, I3, ry, O, k, e, hk, rk, q⟩ => wpAny_bind (wpAny_standAt (wpAny_pure (evalPairs_nil ?_))))
  refine wpAny_holding ?_
  refine wpAny_bind ?_
  rw [List.forIn_cons]
  refine wpAny_bind (wpAny_bind (e_dictSet hu I3 e .nil hk rk rx ry (by show 0 < sizeLine; decide) fun s3 I4 => wpAny_pure ?_))
  simp only [List.forIn_nil]
  exact wpAny_pure (wpAny_pure (wpAny_pure (wpAny_pure ⟨.ref s.heap.objs.size, _, I4, rfl, q⟩)))
end MV

set_option Elab.async false
set_option linter.all false
set_option maxRecDepth 100000
set_option maxHeartbeats 4000000
namespace MV
open PySem L2
/-! ### an object's fields, its methods -/
def dLook : List (D × D) → Str → Option D
  | [], _ => none
  | (.str g, d) :: r, f => if f = g then some d else dLook r f
  | _ :: r, f => dLook r f
def fldD (c f : Str) : D → R D
  | .dict ((.bool true, .str c') :: ds) => if c' = c then (match dLook ds f with | some d => .ok d | none => .stuck) else .stuck
  | _ => .stuck
def obHas (c m : Str) : D → Bool
  | .dict ((.bool true, .str c') :: ds) => decide (c' = c) && (dLook ds m).isNone
  | _ => false
theorem lookup_c (f g : Str) (v : V) (fs : List (Str × V)) : ((g, v) :: fs).lookup f = if f = g then some v else fs.lookup f := by
  by_cases h : f = g
  · have hb : (f == g) = true := beq_iff_eq.mpr h
    simp only [List.lookup, hb, if_pos h]
  · have hb : (f == g) = false := beq_eq_false_iff_ne.mpr h
    simp only [List.lookup, hb, if_neg h]
section
variable {K : Fr} {O : List Addr} {Hr H : Hp} {fs : List (Str × V)} {ds : List (D × D)} {f : Str} {d : D}
theorem Fd.look (h : Fd K O Hr H fs ds) (e : dLook ds f = some d) : ∃ v, fs.lookup f = some v ∧ Rs K O Hr H v d := by
  induction h with
  | nil => cases e
  | @rp g v d' fs ds a _ ih =>
    rw [lookup_c]
    simp only [dLook] at e
    split at e
    · rename_i q; cases e; rw [if_pos q]; exact ⟨v, rfl, .inl a⟩
    · rename_i q; rw [if_neg q]; exact ih e
  | @lst g p xs es fs ds a b _ ih =>
    rw [lookup_c]
    simp only [dLook] at e
    split at e
    · rename_i q; cases e; rw [if_pos q]; exact ⟨_, rfl, .inr ⟨p, rfl, xs, a, b⟩⟩
    · rename_i q; rw [if_neg q]; exact ih e
  | @dct g p vs kvs fs ds a b _ ih =>
    rw [lookup_c]
    simp only [dLook] at e
    split at e
    · rename_i q; cases e; rw [if_pos q]; exact ⟨_, rfl, .inr ⟨p, rfl, .inl ⟨vs, a, b⟩⟩⟩
    · rename_i q; rw [if_neg q]; exact ih e
  | @ob g c p C dx gs es fs ds a b h1 _ _ ih =>
    rw [lookup_c]
    simp only [dLook] at e
    split at e
    · rename_i q; cases e; rw [if_pos q]; exact ⟨_, rfl, .inr ⟨p, rfl, .inr ⟨c, es, C, dx, gs, rfl, a, b, h1⟩⟩⟩
    · rename_i q; rw [if_neg q]; exact ih e
theorem Fd.look0 (h : Fd K O Hr H fs ds) (e : dLook ds f = none) : fs.lookup f = none := by
  induction h with
  | nil => rfl
  | rp _ _ ih =>
    rw [lookup_c]; simp only [dLook] at e
    split at e
    · cases e
    · rename_i q; rw [if_neg q]; exact ih e
  | lst _ _ _ ih =>
    rw [lookup_c]; simp only [dLook] at e
    split at e
    · cases e
    · rename_i q; rw [if_neg q]; exact ih e
  | dct _ _ _ ih =>
    rw [lookup_c]; simp only [dLook] at e
    split at e
    · cases e
    · rename_i q; rw [if_neg q]; exact ih e
  | ob _ _ _ _ _ ih =>
    rw [lookup_c]; simp only [dLook] at e
    split at e
    · cases e
    · rename_i q; rw [if_neg q]; exact ih e
theorem Rs.obj {v : V} {c : Str} (h : Rs K O Hr H v (.dict ((.bool true, .str c) :: ds))) : ∃ p C dx fs, v = .ref p ∧ Hr p = some (.ins C dx fs) ∧ K.mg c = some (.ref C) ∧ Fd K O Hr H fs ds := by
  rcases h with h | ⟨p, rfl, ⟨vs, _, h2⟩ | ⟨c', es, C, dx, fs, e, h1, h2, h3⟩⟩
  · cases h with | dct _ _ b => exact absurd (rpkv_noOb b) (by simp [isOb])
  · exact absurd (rpkv_noOb h2) (by simp [isOb])
  · cases e; exact ⟨p, C, dx, fs, rfl, h1, h2, h3⟩
end
section
variable {X : Cx} {W : WX} {B Ω : List Nat} {k : Nat} {e o : Expr} {es : List Expr} {ga : Env → R D} {gs : Env → R (List D)} {ks : List Bool} {pos p apos : Pos} {f c m : Str} {C : Addr}
theorem pb_fld (hC : X.mg c = some (.ref C)) (cl : Cls X.K C) (na : NoAttr X.K C f) (he : PB X W B Ω e ga) (hb : attributeBase e f X.env (eval e X.env) = eval e X.env := by rfl) : PB X W B Ω (.Attribute e f pos) (x1 (fldD c f) ga) :=
  PE.imp (pe_fld he hb) fun σ H Q ⟨H0, O0, O, ρ, S, h⟩ => ⟨H0, O0, O, ρ, S, Good.bind (f := fldD c f) h fun d v H1 e1 s1 r1 h1 => by
    unfold fldD at h1
    split at h1
    · rename_i c' ds
      by_cases hc : c' = c
      · subst hc
        rw [if_pos rfl] at h1
        split at h1
        · rename_i z ez
          obtain ⟨q, C', dx, fs, rfl, h2, h3, h4⟩ := r1.obj
          have h3 : X.mg c' = some (.ref C') := h3
          rw [hC] at h3; cases h3
          obtain ⟨v, ev, rv⟩ := h4.look ez
          exact ⟨q, C, dx, fs, v, rfl, h2, cl, na, ev, h1.use rv⟩
        · exact h1.elim
      · rw [if_neg hc] at h1; exact h1.elim
    · exact h1.elim⟩
/-- a method: its class, what it computes -/
structure MthOk (P : Program) (w : World) (K : PySem.W.Frag) (mg : Str → Option Value) (base : Heap) (c m : Str) (C f : Addr) (fd : FuncData) (ps : List Str) (ks : List Bool) (fr : Bool) (g : List D → R D) (j : Nat) : Prop where
  F : FnOk P w K mg base (L2N.CX P w) j f fd ps (spM ⟨K, P, w, mg⟩ mg (true :: ks) fr g)
  cg : mg c = some (.ref C)
  cl : Cls K C
  m : Meth K C m f
  b : Binds K fd ps []
def tMethS (C : Addr) (m : Str) (sp : Sp) (E : St → XK) (ta : TE) (t : TA) : TE := fun σ H Q => ta σ H fun x H1 => ∃ a dx fs, x = .ref a ∧ H1 a = some (.ins C dx fs) ∧ fs.lookup m = none ∧
  t σ H1 fun vs H2 => sp (x :: vs) H2 Q (E σ)
theorem pe_methS {CX : CXT} {C f : Addr} {j : Nat} {fd : FuncData} {ps : List Str} {sp : Sp} {E : St → XK} {ta : TE} {t : TA} {pl : Sem Bool} (he : PE X o ta) (c : Cls X.K C) (hm : Meth X.K C m f) (F : FnOk X.prog X.w X.K X.mg X.base CX j f fd ps sp) (hr : Room j X.A) (hb : Binds X.K fd ps []) (hx : ∀ σ, PassesAt CX X σ (E σ)) (ha : PA X (e :: es) t)
    (hst : starEach (e :: es) X.env = (false, eval e X.env) :: starEach es X.env := by rfl) (hpl : (backTo pos (starEach es X.env)).any (·.1) = false := by rfl)
    (ht : eval (.Call (.Attribute o m apos) (e :: es) [] pos) X.env = (do
      let ov ← eval o X.env
      standAt apos.atName
      let (f, first) ← holding [ov] (getMethod ov m pl)
      callWith pos f first (backTo pos (starEach (e :: es) X.env)) (backToKw pos (keywordEach [] X.env))) := by rfl) :
    PE X (.Call (.Attribute o m apos) (e :: es) [] pos) (tMethS C m sp E ta t) := by
  refine ⟨fun pins s σ H Q I h => ?_⟩
  refine PySem.W.methodCall_KW (pl := pl) (thn (he.run pins s σ H _ I h) fun u s1 ⟨x, H1, I1, rx, a, dx, fs, ex, ea, l, q⟩ => ?_) ht
  subst ex
  obtain rfl : u = Value.ref a := rx
  refine getmeth_ok I1 ea c hm l ?_
  refine PySem.W.callWith_K (first := [.ref a]) (h₀ := X.base) I.ok.mod.kin hm.kp (thn (ha.run pos pins s1 σ H1 _ I1 q) fun us s2 ⟨vs, H2, I2, r, q2⟩ => ⟨I2.kIn, ?_⟩) hst hpl
  exact run_fnS (us := .ref a :: us) (vs := .ref a :: vs) F hr hb (hx σ) I2 (.cons rfl r) q2
theorem pe_methS0 {CX : CXT} {C f : Addr} {j : Nat} {fd : FuncData} {ps : List Str} {sp : Sp} {E : St → XK} {ta : TE} {pl : Sem Bool} (he : PE X o ta) (c : Cls X.K C) (hm : Meth X.K C m f) (F : FnOk X.prog X.w X.K X.mg X.base CX j f fd ps sp) (hr : Room j X.A) (hb : Binds X.K fd ps []) (hx : ∀ σ, PassesAt CX X σ (E σ))
    (ht : eval (.Call (.Attribute o m apos) [] [] pos) X.env = (do
      let ov ← eval o X.env
      standAt apos.atName
      let (f, first) ← holding [ov] (getMethod ov m pl)
      callWith pos f first (backTo pos (starEach [] X.env)) (backToKw pos (keywordEach [] X.env))) := by rfl) :
    PE X (.Call (.Attribute o m apos) [] [] pos) (tMethS C m sp E ta tNil) := by
  refine ⟨fun pins s σ H Q I h => ?_⟩
  refine PySem.W.methodCall_KW (pl := pl) (thn (he.run pins s σ H _ I h) fun u s1 ⟨x, H1, I1, rx, a, dx, fs, ex, ea, l, q⟩ => ?_) ht
  subst ex
  obtain rfl : u = Value.ref a := rx
  refine getmeth_ok I1 ea c hm l ?_
  exact PySem.W.callWith_K0 (first := [.ref a]) I1.kIn hm.kp (run_fnS (us := [.ref a]) (vs := [.ref a]) F hr hb (hx σ) I1 (.cons rfl .nil) q)
/-- o.m(..) -/
def xMeth (c m : Str) (g : List D → R D) (ga : Env → R D) (gs : Env → R (List D)) : Env → R D := fun ρ => (ga ρ).bind fun x => if obHas c m x = true then (gs ρ).bind fun ds => g (x :: ds) else .stuck
theorem obHas_of {d : D} (h : obHas c m d = true) : ∃ ds, d = .dict ((.bool true, .str c) :: ds) ∧ dLook ds m = none := by
  unfold obHas at h
  split at h
  · rename_i c' ds
    simp only [Bool.and_eq_true, decide_eq_true_eq] at h
    obtain ⟨rfl, h2⟩ := h
    exact ⟨ds, rfl, by cases q : dLook ds m with | none => rfl | some _ => rw [q] at h2; cases h2⟩
  · cases h
variable {F : Addr} {fd : FuncData} {ps : List Str} {g : List D → R D} {j : Nat} {pl : Sem Bool}
theorem px_m (G : Gd X W k) (M : MthOk X.prog X.w X.K X.mg X.base c m C F fd ps ks false g j) (hj : Nat.ble j k = true) (ho : PB X W B Ω o ga) (ha : PAk X W B Ω ks (e :: es) gs)
    (hst : starEach (e :: es) X.env = (false, eval e X.env) :: starEach es X.env := by rfl) (hpl : (backTo pos (starEach es X.env)).any (·.1) = false := by rfl)
    (ht : eval (.Call (.Attribute o m apos) (e :: es) [] pos) X.env = (do
      let ov ← eval o X.env
      standAt apos.atName
      let (f, first) ← holding [ov] (getMethod ov m pl)
      callWith pos f first (backTo pos (starEach (e :: es) X.env)) (backToKw pos (keywordEach [] X.env))) := by rfl) :
    PX X W B Ω (.Call (.Attribute o m apos) (e :: es) [] pos) (xMeth c m g ga gs) :=
  PE.imp (pe_methS ho M.cl M.m M.F (G.hr.mono (Nat.le_of_ble_eq_true hj)) M.b (fun σ => L2N.passAt G.tk σ) ha hst hpl ht) fun σ H Q ⟨H0, O0, O, ρ, S, h⟩ => ⟨H0, O0, O, ρ, S, Good.bind h fun x v H1 e1 s1 r1 h1 => by
    by_cases hh : obHas c m x = true
    · rw [if_pos hh] at h1
      obtain ⟨ds, rfl, hn⟩ := obHas_of hh
      obtain ⟨q, C', dx, fs, rfl, h2, h3, h4⟩ := r1.obj
      have h3 : X.mg c = some (.ref C') := h3
      rw [M.cg] at h3; cases h3
      refine ⟨q, dx, fs, rfl, h2, h4.look0 hn, H0, O0, O, ρ, S.same s1, Good.bind (f := fun ds' => g (_ :: ds')) h1 fun es' vs H2 e2 s2 r2 h3 => ?_⟩
      refine ⟨O, _ :: es', ((S.same s1).same s2).trk, ⟨by rw [if_pos rfl]; exact r1.ge s2 (Ge.of_same s2), r2⟩, ?_⟩
      cases q2 : g (.dict ((.bool true, .str c) :: ds) :: es') with
      | ok d => rw [q2] at h3; exact h3
      | exc n => rw [q2] at h3; exact h3
      | stuck => rw [q2] at h3; exact h3
    · rw [if_neg hh] at h1; exact h1.elim⟩
theorem po_m (G : Gd X W k) (M : MthOk X.prog X.w X.K X.mg X.base c m C F fd ps ks true g j) (hj : Nat.ble j k = true) (ho : PB X W B Ω o ga) (ha : PAk X W B Ω ks (e :: es) gs)
    (hst : starEach (e :: es) X.env = (false, eval e X.env) :: starEach es X.env := by rfl) (hpl : (backTo pos (starEach es X.env)).any (·.1) = false := by rfl)
    (ht : eval (.Call (.Attribute o m apos) (e :: es) [] pos) X.env = (do
      let ov ← eval o X.env
      standAt apos.atName
      let (f, first) ← holding [ov] (getMethod ov m pl)
      callWith pos f first (backTo pos (starEach (e :: es) X.env)) (backToKw pos (keywordEach [] X.env))) := by rfl) :
    MV.PO X W B Ω (.Call (.Attribute o m apos) (e :: es) [] pos) (xMeth c m g ga gs) :=
  PE.imp (pe_methS ho M.cl M.m M.F (G.hr.mono (Nat.le_of_ble_eq_true hj)) M.b (fun σ => L2N.passAt G.tk σ) ha hst hpl ht) fun σ H Q ⟨H0, O0, O, ρ, S, h⟩ => ⟨H0, O0, O, ρ, S, Good.bind h fun x v H1 e1 s1 r1 h1 => by
    by_cases hh : obHas c m x = true
    · rw [if_pos hh] at h1
      obtain ⟨ds, rfl, hn⟩ := obHas_of hh
      obtain ⟨q, C', dx, fs, rfl, h2, h3, h4⟩ := r1.obj
      have h3 : X.mg c = some (.ref C') := h3
      rw [M.cg] at h3; cases h3
      refine ⟨q, dx, fs, rfl, h2, h4.look0 hn, H0, O0, O, ρ, S.same s1, Good.bind (f := fun ds' => g (_ :: ds')) h1 fun es' vs H2 e2 s2 r2 h3 => ?_⟩
      refine ⟨O, _ :: es', ((S.same s1).same s2).trk, ⟨by rw [if_pos rfl]; exact r1.ge s2 (Ge.of_same s2), r2⟩, ?_⟩
      cases q2 : g (.dict ((.bool true, .str c) :: ds) :: es') with
      | ok d => rw [q2] at h3; exact fun v H' s r => h3 v H' s (rel_back (Same.tr s1 s2) r)
      | exc n => rw [q2] at h3; exact h3
      | stuck => rw [q2] at h3; exact h3
    · rw [if_neg hh] at h1; exact h1.elim⟩
/-- o.m() -/
def xMeth0 (c m : Str) (g : List D → R D) (ga : Env → R D) : Env → R D := fun ρ => (ga ρ).bind fun x => if obHas c m x = true then g [x] else .stuck
theorem px_m0 (G : Gd X W k) (M : MthOk X.prog X.w X.K X.mg X.base c m C F fd ps [] false g j) (hj : Nat.ble j k = true) (ho : PB X W B Ω o ga)
    (ht : eval (.Call (.Attribute o m apos) [] [] pos) X.env = (do
      let ov ← eval o X.env
      standAt apos.atName
      let (f, first) ← holding [ov] (getMethod ov m pl)
      callWith pos f first (backTo pos (starEach [] X.env)) (backToKw pos (keywordEach [] X.env))) := by rfl) :
    PX X W B Ω (.Call (.Attribute o m apos) [] [] pos) (xMeth0 c m g ga) :=
  PE.imp (pe_methS0 ho M.cl M.m M.F (G.hr.mono (Nat.le_of_ble_eq_true hj)) M.b (fun σ => L2N.passAt G.tk σ) ht) fun σ H Q ⟨H0, O0, O, ρ, S, h⟩ => ⟨H0, O0, O, ρ, S, Good.bind h fun x v H1 e1 s1 r1 h1 => by
    by_cases hh : obHas c m x = true
    · rw [if_pos hh] at h1
      obtain ⟨ds, rfl, hn⟩ := obHas_of hh
      obtain ⟨q, C', dx, fs, rfl, h2, h3, h4⟩ := r1.obj
      have h3 : X.mg c = some (.ref C') := h3
      rw [M.cg] at h3; cases h3
      refine ⟨q, dx, fs, rfl, h2, h4.look0 hn, ?_⟩
      refine ⟨O, [_], (S.same s1).trk, ⟨by rw [if_pos rfl]; exact r1, trivial⟩, ?_⟩
      cases q2 : g [.dict ((.bool true, .str c) :: ds)] with
      | ok d => rw [q2] at h1; exact h1
      | exc n => rw [q2] at h1; exact h1
      | stuck => rw [q2] at h1; exact h1
    · rw [if_neg hh] at h1; exact h1.elim⟩
theorem po_m0 (G : Gd X W k) (M : MthOk X.prog X.w X.K X.mg X.base c m C F fd ps [] true g j) (hj : Nat.ble j k = true) (ho : PB X W B Ω o ga)
    (ht : eval (.Call (.Attribute o m apos) [] [] pos) X.env = (do
      let ov ← eval o X.env
      standAt apos.atName
      let (f, first) ← holding [ov] (getMethod ov m pl)
      callWith pos f first (backTo pos (starEach [] X.env)) (backToKw pos (keywordEach [] X.env))) := by rfl) :
    MV.PO X W B Ω (.Call (.Attribute o m apos) [] [] pos) (xMeth0 c m g ga) :=
  PE.imp (pe_methS0 ho M.cl M.m M.F (G.hr.mono (Nat.le_of_ble_eq_true hj)) M.b (fun σ => L2N.passAt G.tk σ) ht) fun σ H Q ⟨H0, O0, O, ρ, S, h⟩ => ⟨H0, O0, O, ρ, S, Good.bind h fun x v H1 e1 s1 r1 h1 => by
    by_cases hh : obHas c m x = true
    · rw [if_pos hh] at h1
      obtain ⟨ds, rfl, hn⟩ := obHas_of hh
      obtain ⟨q, C', dx, fs, rfl, h2, h3, h4⟩ := r1.obj
      have h3 : X.mg c = some (.ref C') := h3
      rw [M.cg] at h3; cases h3
      refine ⟨q, dx, fs, rfl, h2, h4.look0 hn, ?_⟩
      refine ⟨O, [_], (S.same s1).trk, ⟨by rw [if_pos rfl]; exact r1, trivial⟩, ?_⟩
      cases q2 : g [.dict ((.bool true, .str c) :: ds)] with
      | ok d => rw [q2] at h1; exact fun v H' s r => h1 v H' s (rel_back s1 r)
      | exc n => rw [q2] at h1; exact h1
      | stuck => rw [q2] at h1; exact h1
    · rw [if_neg hh] at h1; exact h1.elim⟩
end
end MV

set_option Elab.async false
set_option linter.all false
set_option maxRecDepth 100000
set_option maxHeartbeats 4000000
namespace MV
open PySem L2 MVX
/-! ### sorted of tuples: of a list, of a dict -/
section
variable {X : Cx} {pins : List (Addr × Obj)} {σ : St} {H H' : Hp} {s : Shared} {O : List Addr} {xs : List V} {ds : List D} {vs : List Value} {Q : VK}
def srtT (ds : List D) : List D := ds.mergeSort (PySem.W.dataLe false fun d : D => d)
theorem tup_of_ok (h : keysOk ds = true) : PySem.W.AllAlike ds ∧ (∀ d, d ∈ ds → ∃ xs, d = .tuple xs) ∧ ∀ d ∈ ds, shp 16 d = true := by
  simp only [keysOk, Bool.and_eq_true, List.all_eq_true] at h
  refine ⟨fun d hd d' hd' => h.1.1 d hd d' hd', fun d hd => ?_, h.2⟩
  have := h.1.2 d hd
  unfold tupB at this
  split at this
  · exact ⟨_, rfl⟩
  · cases this
theorem sort_out (I : Inv X pins σ H s) (rv : Vals xs vs) (hx : RpAll X.fr O H xs ds) (hk : keysOk ds = true) {s1 : Shared} (I1 : Inv X pins σ H s1) :
    ∃ xs', Vals xs' (PySem.W.sortVals (PySem.W.dataKind s1.heap ds) false vs vs) ∧ RpAll X.fr O H xs' (srtT ds) := by
  obtain ⟨hal, ht, hs⟩ := tup_of_ok hk
  have hrd := each_reads I1 hs rv hx
  have e : ds.map (fun d => d) = ds := List.map_id' ds
  have hout := PySem.W.keyedOut_each (rev := false) (R := fun v (b : D) => ∃ x, RelV x v ∧ Rp X.fr O H x b) (bs := ds) (vs := vs) (out := PySem.W.sortVals (PySem.W.dataKind s1.heap ds) false vs vs) (fun b => b) ⟨s1.heap, vs, by rw [e]; exact hal, by rw [e], by rw [e]; exact hrd⟩ (each_of rv (by rw [e]; exact hx))
  obtain ⟨xs', rs', hs'⟩ := of_each (f := fun b : D => b) hout
  exact ⟨xs', rs', by rw [List.map_id'] at hs'; exact hs'⟩
theorem sorts_t (hu : X.A.units + 64 < cLine) (rv : Vals xs vs) (hx : RpAll X.fr O H xs ds) (hk : keysOk ds = true) {s1 : Shared} (I1 : Inv X pins σ H s1) : PySem.W.SortsAt X.prog X.w X.A.in1.in1 s1 (PySem.W.dataKind s1.heap ds) vs := by
  obtain ⟨hal, ht, hs⟩ := tup_of_ok hk
  refine MV.T.SortsAt_tups (s := s1) (each_reads I1 hs rv hx) hal ht fun d hd => ?_
  have := shp_depth 16 d (hs d hd)
  show X.A.units + 1 + 1 + d.depth < _
  omega
def rSortT (F : Fr) : List V → Hp → VK → Prop := fun vs H Q => ∃ (l : Addr) (xs : List V) (ds : List D) (O : List Addr), vs = [.ref l] ∧ (SqL F H l xs ∨ ∃ es, H l = some (dR F l es) ∧ xs = es.map (·.2.1)) ∧ RpAll F O H xs ds ∧ keysOk ds = true ∧
  ∀ p xs', H p = none → RpAll F O H xs' (srtT ds) → Q (.ref p) (upd H p (.lst xs'))
theorem cr_sortT (hc : X.calm = true) (hu : X.A.units + 64 < cLine) : CallR X (.builtin "sorted") (rSortT X.fr) := by
  intro pins s σ H vs us Q I r h
  obtain ⟨l, xs, ds, O, rfl, hl, hx, hk, q⟩ := h
  obtain rfl := Vals.ref1 r
  rcases hl with hl | ⟨es, hs, rfl⟩
  · obtain ⟨its, rv, hl, hz⟩ := I.list hl
    have I1 : Inv X pins σ H { s with heap := PySem.W.sortingHeap (PySem.W.copyHeap s.heap its) (s.heap.objs.size + 1) its } := I.kept (t' := s.toks) fun b o e => PySem.W.sorting_copy_old e
    have hz' : its.length ≤ sizeLine := by rw [← rv.length]; exact hz
    refine PySem.W.sorted_vals hl.isList (sorts_t hu rv hx hk I1) hz' ?_
    obtain ⟨xs', rs', hs'⟩ := sort_out I rv hx hk I1
    obtain ⟨ep, he'⟩ := PyProof.Rows.sortedAll_at s.heap its (PySem.W.sortVals (PySem.W.dataKind (PySem.W.sortingHeap (PySem.W.copyHeap s.heap its) (s.heap.objs.size + 1) its) ds) false its its).toArray
    have hlen : xs'.length ≤ sizeLine := by
      rw [hs'.length]
      unfold srtT
      rw [(List.mergeSort_perm _ _).length_eq, ← hx.length]
      exact hz
    exact ⟨.ref _, upd H (s.heap.objs.size + 1) (.lst xs'), I.laid (t' := s.toks) (fun _ _ => PyProof.Rows.sortedAll_old) (Nat.le_succ _) ⟨hlen, _, ep, rs', he'⟩, rfl, q _ _ (I.hok.fresh (Nat.le_succ _)) hs'⟩
  · obtain ⟨hz, hm, hnd, o, raw, ep, ho, hxd, hdat, hpr⟩ := dr_get I hs
    have hl : raw.size = es.length := by rw [← Array.length_toList]; exact (Paired.length hpr).symm
    refine sorted_of_sort_kdl (PySem.KdlSrc.rawDict (es := raw) (ep := ep) hm) (I.ok.hd hc) ⟨o, ho, hxd, hdat⟩ (by omega) (PyProof.Rows.args_sorted1 _) (fun _ => PyProof.Rows.args_list_sort _) fun E' h' tk acc hkp hacc => ?_
    have I0 : Inv X pins σ H { s with heap := h', toks := tk } := I.kept (t' := tk) hkp
    have rv : Vals (es.map (·.2.1)) acc.toList := by rw [acc_keys hacc]; exact keys_vals hpr
    have hz' : acc.toList.length ≤ sizeLine := by rw [Array.length_toList, hacc.1]; omega
    have ho1 : (h'.push (PyProof.Rows.seqObj "list" acc.toList.toArray 0)).get? h'.objs.size = some (PyProof.Rows.seqObj "list" acc.toList.toArray 0) := Heap.get?_push_size _ rfl
    have I1 : Inv X pins σ H { s with heap := PySem.W.sortingHeap (h'.push (PyProof.Rows.seqObj "list" acc.toList.toArray 0)) h'.objs.size acc.toList, toks := tk } := I0.kept (t' := tk) fun b o e => PySem.W.sortingHeap_old (Nat.ne_of_lt (Heap.lt_size e)) (Heap.get?_push_of_some _ e)
    refine PySem.W.list_sort_vals (s := { s with heap := h'.push (PyProof.Rows.seqObj "list" acc.toList.toArray 0), toks := tk }) ho1 (sorts_t hu rv hx hk I1) hz' ⟨rfl, ?_⟩
    obtain ⟨xs', rs', hs'⟩ := sort_out I0 rv hx hk I1
    obtain ⟨ep, he'⟩ := PyProof.Rows.sortedHeap_at (out := (PySem.W.sortVals (PySem.W.dataKind (PySem.W.sortingHeap (h'.push (PyProof.Rows.seqObj "list" acc.toList.toArray 0)) h'.objs.size acc.toList) ds) false acc.toList acc.toList).toArray) ho1
    have hlen : xs'.length ≤ sizeLine := by
      rw [hs'.length]
      unfold srtT
      rw [(List.mergeSort_perm _ _).length_eq, ← hx.length, rv.length]
      exact hz'
    refine ⟨.ref _, upd H h'.objs.size (.lst xs'), I0.laid (a := h'.objs.size) (t' := tk) (fun b o e => ?_) (Nat.le_refl _) ⟨hlen, _, ep, rs', he'⟩, rfl, q _ _ (I0.hok.fresh (Nat.le_refl _)) hs'⟩
    have hb := Heap.lt_size e
    show (PyProof.Rows.sortedHeap _ _ _ _).get? b = _
    rw [PyProof.Rows.sortedHeap_old (Nat.ne_of_lt hb) (by rw [PyProof.Rows.size_push']; exact Nat.lt_succ_of_lt hb)]
    exact Heap.get?_push_of_some _ e
/-- sorted of tuples -/
def sortTF : List D → R D
  | [.list ds] => okIf (keysOk ds) (.list (srtT ds))
  | [.dict kvs] => okIf (!isOb kvs && keysOk (kvs.map (·.1))) (.list (srtT (kvs.map (·.1))))
  | _ => .stuck
theorem nox_sortT : NoXl sortTF := by intro ds n; unfold sortTF; split <;> first | simp | (unfold okIf; split <;> simp)
theorem rc_sortT : RCO X (rSortT X.fr) sortTF [true] := by
  intro O H vs ds d Q ht h e q
  obtain ⟨v, d', rfl, rfl, r⟩ := rpk1 h
  cases d' <;> simp only [sortTF] at e <;> try cases e
  · obtain ⟨c, rfl⟩ := okIf_ok e
    obtain ⟨p, xs, rfl, h1, h2⟩ := r.lst
    exact ⟨p, xs, _, O, rfl, .inl (.inl h1), h2, c, fun l xs' hl hx => q _ _ (same_upd hl) (.inr ⟨l, rfl, hl, new_own hl hx⟩)⟩
  · obtain ⟨c, rfl⟩ := okIf_ok e
    simp only [Bool.and_eq_true] at c
    obtain ⟨p, es, rfl, h1, h2⟩ := r.dict (by simpa using c.1)
    exact ⟨p, _, _, O, rfl, .inr ⟨es, h1, rfl⟩, keys_rp h2, c.2, fun l xs' hl hx => q _ _ (same_upd hl) (.inr ⟨l, rfl, hl, new_own hl hx⟩)⟩
end
end MV

set_option Elab.async false
set_option linter.all false
set_option maxRecDepth 100000
set_option maxHeartbeats 4000000
namespace MV
open PySem L2
/-! ### zip, enumerate over borrowed things -/
section
variable {K : Fr} {O : List Addr} {Hr H H' : Hp}
theorem src_ofS {v : V} {d : D} {ds : List D} (r : Rs K O Hr H v d) (e : seqD d = .ok ds) : ∃ (k : SK) (xs : List V), v = k.v ∧ (∀ O' H', Same Hr H' → Step O H O' H' → k.has H' xs) ∧ RpAll K O H xs ds := by
  rcases r with r | ⟨p, rfl, r⟩
  · obtain ⟨k, xs, e1, h1, h2⟩ := src_of r e
    exact ⟨k, xs, e1, fun O' H' _ st => h1 O' H' st, h2⟩
  · cases d <;> simp only [seqD] at e <;> cases e
    · exact r.elim
    · obtain ⟨xs, h1, h2⟩ := r
      exact ⟨.lst p, xs, rfl, fun O' H' s _ => Rd.same s h1, h2⟩
    · exact r.elim
/-- all borrowed, the roots as at Hr -/
def RsA (K : Fr) (O : List Addr) (Hr H : Hp) : List V → List D → Prop
  | [], [] => True
  | v :: vs, d :: ds => Rs K O Hr H v d ∧ RsA K O Hr H vs ds
  | _, _ => False
theorem rpk_rsa : ∀ {vs : List V} {ds : List D} {n : Nat}, RpK K O H (List.replicate n true) vs ds → RsA K O H H vs ds
  | [], [], 0, h => trivial
  | [], _ :: _, 0, h => h.elim
  | _ :: _, [], 0, h => h.elim
  | _ :: _, _ :: _, 0, h => h.elim
  | [], [], n + 1, h => h.elim
  | [], _ :: _, n + 1, h => h.elim
  | _ :: _, [], n + 1, h => h.elim
  | v :: vs, d :: ds, n + 1, h => ⟨by have := h.1; rwa [if_pos rfl] at this, rpk_rsa (n := n) h.2⟩
theorem rsa1 {vs : List V} {x : D} (h : RsA K O Hr H vs [x]) : ∃ v, vs = [v] ∧ Rs K O Hr H v x := by
  match vs, h with
  | [v], h => exact ⟨v, rfl, h.1⟩
  | [], h => exact h.elim
  | v :: u :: vs, h => exact h.2.elim
theorem rsa2 {vs : List V} {x y : D} (h : RsA K O Hr H vs [x, y]) : ∃ v u, vs = [v, u] ∧ Rs K O Hr H v x ∧ Rs K O Hr H u y := by
  match vs, h with
  | [v, u], h => exact ⟨v, u, rfl, h.1, h.2.1⟩
  | [], h => exact h.elim
  | [v], h => exact h.2.elim
  | v :: u :: w :: vs, h => exact h.2.2.elim
theorem rsa3 {vs : List V} {x y z : D} (h : RsA K O Hr H vs [x, y, z]) : ∃ v u w, vs = [v, u, w] ∧ Rs K O Hr H v x ∧ Rs K O Hr H u y ∧ Rs K O Hr H w z := by
  match vs, h with
  | [v, u, w], h => exact ⟨v, u, w, rfl, h.1, h.2.1, h.2.2.1⟩
  | [], h => exact h.elim
  | [v], h => exact h.2.elim
  | [v, u], h => exact h.2.2.elim
  | v :: u :: w :: x :: vs, h => exact h.2.2.2.elim
end
section
variable {X : Cx} {W : WX} {B Ω : List Nat} {a b c e : Expr} {es : List Expr} {ga : Env → R D} {gs : Env → R (List D)} {pos p : Pos}
def tAs (K : Fr) (mg : Str → Option Value) (W : WX) (B Ω : List Nat) (g : Env → R (List D)) : TA := fun σ H Q => ∃ H0 O0 O ρ, Stt K H0 O0 B Ω O H σ ρ ∧ Good mg W σ (fun H' => RsA K O H0 H') H (g ρ) Q
def PAs (X : Cx) (W : WX) (B Ω : List Nat) (es : List Expr) (g : Env → R (List D)) : Prop := PA X es (tAs X.fr X.mg W B Ω g)
theorem RsA.ge {K : Fr} {O : List Addr} {Hr H H' : Hp} (g : Ge O H H') : ∀ {vs : List V} {ds : List D}, RsA K O Hr H vs ds → RsA K O Hr H' vs ds
  | [], [], _ => trivial
  | v :: vs, d :: ds, h => ⟨h.1.ge Same.refl g, RsA.ge g h.2⟩
  | [], _ :: _, h => h.elim
  | _ :: _, [], h => h.elim
theorem pas_nil : PAs X W B Ω [] aNil := PA.imp pa_nil fun σ H Q ⟨H0, O0, O, ρ, S, h⟩ => h.use trivial
theorem pas_x (ha : PX X W B Ω a ga) (hr : PAs X W B Ω es gs) (hs : starEach (a :: es) X.env = (false, eval a X.env) :: starEach es X.env := by rfl) : PAs X W B Ω (a :: es) (aCons ga gs) :=
  PA.imp (pa_cons ha hr hs) fun σ H Q ⟨H0, O0, O, ρ, S, h⟩ => ⟨H0, O0, O, ρ, S, Good.bind h fun d v H1 e s1 r1 h1 => ⟨H0, O0, O, ρ, S.same s1, Good.bind (f := fun ds => .ok (d :: ds)) h1 fun ds vs H2 e2 s2 r2 h2 =>
    h2.use ⟨.inl (r1.same s2), r2⟩⟩⟩
/-- a borrowed parameter -/
theorem pas_v {i : Nat} {x : Str} {vp : Pos} (hN : X.N[i]? = some x) (hv : Vis X.env.scope x) (ho : Ω.contains i = false) (hr : PAs X W B Ω es gs) (hd : (x == ("__debug__" : Str)) = false := by decide) (hcd : (x == ("__classdict__" : Str)) = false := by decide) (hs : starEach (.Name x vp :: es) X.env = (false, eval (.Name x vp) X.env) :: starEach es X.env := by rfl) : PAs X W B Ω (.Name x vp :: es) (aCons (xVar i) gs) :=
  PA.imp (pa_cons (pe_var hN hv hd hcd) hr hs) fun σ H Q ⟨H0, O0, O, ρ, S, h⟩ => by
    have ho : i ∉ Ω := by simpa using ho
    have h : Good X.mg W σ (fun H' => RsA X.fr O H0 H') H ((xVar i ρ).bind fun d => (gs ρ).bind fun ds => .ok (d :: ds)) Q := h
    unfold xVar at h
    cases q : ρ[i]? with
    | none => rw [q] at h; exact h.elim
    | some o =>
      cases o with
      | none => rw [q] at h; exact h.elim
      | some d =>
        rw [q] at h
        obtain ⟨v, ev, rv⟩ : ∃ v, σ[i]? = some (some v) ∧ Rs X.fr O H0 H v d := by
          by_cases hb : i ∈ B
          · exact S.bor i d q ho hb
          · obtain ⟨v, e1, r1⟩ := S.fz i d q ho hb
            exact ⟨v, e1, .inl r1⟩
        exact ⟨v, ev, H0, O0, O, ρ, S, Good.bind (f := fun ds => .ok (d :: ds)) h fun ds vs H2 e2 s2 r2 h2 => h2.use ⟨rv.ge Same.refl (Ge.of_same s2), r2⟩⟩
theorem pic_enumb {elts : List Expr} {kk : Nat} {tpos : Pos} (hg : Gl X "enumerate") (hm : X.mg "enumerate" = none) (ha : PAk X W B Ω [true] [a] gs)
    (hs : starEach [a] X.env = [(false, eval a X.env)] := by rfl) : PIc X W B Ω (.Tuple elts kk tpos) (.Call (.Name "enumerate" p) [a] [] pos) (xZip enumD gs) :=
  PI.imp (pi_eS hg hm ha hs) fun σ H Q ⟨H0, O0, O, ρ, S, h⟩ => ⟨H0, O0, O, ρ, S, Good.bind (f := enumD) h fun ds vs H1 e s1 r1 h1 => by
    clear e
    have S1 := S.same s1
    replace r1 := rpk_rsa (n := 1) (vs := vs) (ds := ds) r1; have s0 : Same H1 H1 := Same.refl
    unfold enumD at h1
    split at h1
    · rename_i x
      cases ex : seqD x with
      | stuck => rw [ex] at h1; exact h1.elim
      | exc n => exact absurd ex (seqD_nx _ _)
      | ok xs =>
      rw [ex] at h1
      obtain ⟨v0, rfl, rs0⟩ := rsa1 r1
      obtain ⟨k0, us, rfl, a0, b0⟩ := src_ofS rs0 ex
      refine ⟨k0, us, rfl, a0 _ _ s0 Step.refl, h1.use fun O' H' ss st ht => ?_⟩
      refine ⟨fun i d ed => ?_, a0 _ _ ss st, by rw [List.length_map, List.length_zipIdx, b0.length]⟩
      rw [List.getElem?_map, List.getElem?_zipIdx] at ed
      cases eq : xs[i]? with
      | none => rw [eq] at ed; cases ed
      | some q =>
        rw [eq] at ed; cases ed
        obtain ⟨v, ev, rv⟩ := b0.get eq
        refine ⟨⟨a0 _ _ ss st, (List.getElem?_eq_some_iff.mp ev).1⟩, fun z H2 ⟨T, v', e1, e2, e3, e4⟩ => ?_⟩
        rw [ev] at e4; cases e4
        subst e1 e3
        refine ⟨same_upd e2, new_tup ht e2 (.cons ?_ (.cons (rv.step st) .nil))⟩
        simp only [Nat.zero_add]
        exact .int _
    · exact h1.elim⟩
theorem pic_z2b {elts : List Expr} {kk : Nat} {tpos : Pos} (hg : Gl X "zip") (hm : X.mg "zip" = none) (ha : PAk X W B Ω [true, true] [a, b] gs)
    (hs : starEach [a, b] X.env = (false, eval a X.env) :: starEach [b] X.env := by rfl) (hpl : (backTo pos (starEach [b] X.env)).any (·.1) = false := by rfl) : PIc X W B Ω (.Tuple elts kk tpos) (.Call (.Name "zip" p) [a, b] [] pos) (xZip zipD2 gs) :=
  PI.imp (pi_z2 hg hm ha hs hpl) fun σ H Q ⟨H0, O0, O, ρ, S, h⟩ => ⟨H0, O0, O, ρ, S, Good.bind (f := zipD2) h fun ds vs H1 e s1 r1 h1 => by
    clear e
    have S1 := S.same s1
    replace r1 := rpk_rsa (n := 2) (vs := vs) (ds := ds) r1; have s0 : Same H1 H1 := Same.refl
    unfold zipD2 at h1
    split at h1
    · rename_i x y
      cases ex : seqD x with
      | stuck => rw [ex] at h1; exact h1.elim
      | exc n => exact absurd ex (seqD_nx _ _)
      | ok xs =>
      cases ey : seqD y with
      | stuck => rw [ex, ey] at h1; exact h1.elim
      | exc n => exact absurd ey (seqD_nx _ _)
      | ok ys =>
      rw [ex, ey] at h1
      obtain ⟨v0, u0, rfl, rs0, rs1⟩ := rsa2 r1
      obtain ⟨k0, us, rfl, a0, b0⟩ := src_ofS rs0 ex
      obtain ⟨k1, ws, rfl, a1, b1⟩ := src_ofS rs1 ey
      refine ⟨k0, k1, us, ws, rfl, a0 _ _ s0 Step.refl, a1 _ _ s0 Step.refl, h1.use fun O' H' ss st ht => ?_⟩
      refine ⟨fun i d ed => ?_, a0 _ _ ss st, a1 _ _ ss st, by rw [List.length_map, List.length_zip, b0.length, b1.length]⟩
      obtain ⟨x', y', ex', ey', rfl⟩ := zip_get ed
      obtain ⟨v, ev, rv⟩ := b0.get ex'
      obtain ⟨u, eu, ru⟩ := b1.get ey'
      refine ⟨⟨a0 _ _ ss st, a1 _ _ ss st, (List.getElem?_eq_some_iff.mp ev).1, (List.getElem?_eq_some_iff.mp eu).1⟩, fun z H2 ⟨T, v', u', e1, e2, e3, e4, e5⟩ => ?_⟩
      rw [ev] at e4; cases e4
      rw [eu] at e5; cases e5
      subst e1 e3
      exact ⟨same_upd e2, new_tup ht e2 (.cons (rv.step st) (.cons (ru.step st) .nil))⟩
    · exact h1.elim⟩
theorem pic_z3b {elts : List Expr} {kk : Nat} {tpos : Pos} (hg : Gl X "zip") (hm : X.mg "zip" = none) (ha : PAk X W B Ω [true, true, true] [a, b, c] gs)
    (hs : starEach [a, b, c] X.env = (false, eval a X.env) :: starEach [b, c] X.env := by rfl) (hpl : (backTo pos (starEach [b, c] X.env)).any (·.1) = false := by rfl) : PIc X W B Ω (.Tuple elts kk tpos) (.Call (.Name "zip" p) [a, b, c] [] pos) (xZip zipD3 gs) :=
  PI.imp (pi_z3 hg hm ha hs hpl) fun σ H Q ⟨H0, O0, O, ρ, S, h⟩ => ⟨H0, O0, O, ρ, S, Good.bind (f := zipD3) h fun ds vs H1 e s1 r1 h1 => by
    clear e
    have S1 := S.same s1
    replace r1 := rpk_rsa (n := 3) (vs := vs) (ds := ds) r1; have s0 : Same H1 H1 := Same.refl
    unfold zipD3 at h1
    split at h1
    · rename_i x y w
      cases ex : seqD x with
      | stuck => rw [ex] at h1; exact h1.elim
      | exc n => exact absurd ex (seqD_nx _ _)
      | ok xs =>
      cases ey : seqD y with
      | stuck => rw [ex, ey] at h1; exact h1.elim
      | exc n => exact absurd ey (seqD_nx _ _)
      | ok ys =>
      cases ew : seqD w with
      | stuck => rw [ex, ey, ew] at h1; exact h1.elim
      | exc n => exact absurd ew (seqD_nx _ _)
      | ok qs =>
      rw [ex, ey, ew] at h1
      obtain ⟨v0, u0, w0, rfl, rs0, rs1, rs2⟩ := rsa3 r1
      obtain ⟨k0, us, rfl, a0, b0⟩ := src_ofS rs0 ex
      obtain ⟨k1, ws, rfl, a1, b1⟩ := src_ofS rs1 ey
      obtain ⟨k2, ts, rfl, a2, b2⟩ := src_ofS rs2 ew
      refine ⟨k0, k1, k2, us, ws, ts, rfl, a0 _ _ s0 Step.refl, a1 _ _ s0 Step.refl, a2 _ _ s0 Step.refl, h1.use fun O' H' ss st ht => ?_⟩
      refine ⟨fun i d ed => ?_, a0 _ _ ss st, a1 _ _ ss st, a2 _ _ ss st, by rw [List.length_map, List.length_zip, List.length_zip, b0.length, b1.length, b2.length]⟩
      rw [List.getElem?_map] at ed
      cases eq : ((xs.zip ys).zip qs)[i]? with
      | none => rw [eq] at ed; cases ed
      | some q =>
        rw [eq] at ed; cases ed
        obtain ⟨h12, h3⟩ := List.getElem?_zip_eq_some.mp eq
        obtain ⟨h1', h2'⟩ := List.getElem?_zip_eq_some.mp h12
        obtain ⟨v, ev, rv⟩ := b0.get h1'
        obtain ⟨u, eu, ru⟩ := b1.get h2'
        obtain ⟨t, et, rt⟩ := b2.get h3
        refine ⟨⟨a0 _ _ ss st, a1 _ _ ss st, a2 _ _ ss st, (List.getElem?_eq_some_iff.mp ev).1, (List.getElem?_eq_some_iff.mp eu).1, (List.getElem?_eq_some_iff.mp et).1⟩, fun z H2 ⟨T, v', u', t', e1, e2, e3, e4, e5, e6⟩ => ?_⟩
        rw [ev] at e4; cases e4
        rw [eu] at e5; cases e5
        rw [et] at e6; cases e6
        subst e1 e3
        exact ⟨same_upd e2, new_tup ht e2 (.cons (rv.step st) (.cons (ru.step st) (.cons (rt.step st) .nil)))⟩
    · exact h1.elim⟩
theorem pic_z2Nb {tpos : Pos} {xn : Str} (hg : Gl X "zip") (hm : X.mg "zip" = none) (ha : PAk X W B Ω [true, true] [a, b] gs)
    (hs : starEach [a, b] X.env = (false, eval a X.env) :: starEach [b] X.env := by rfl) (hpl : (backTo pos (starEach [b] X.env)).any (·.1) = false := by rfl) : PIc X W B Ω (.Name xn tpos) (.Call (.Name "zip" p) [a, b] [] pos) (xZip zipD2 gs) :=
  PI.imp (pi_z2N hg hm ha hs hpl) fun σ H Q ⟨H0, O0, O, ρ, S, h⟩ => ⟨H0, O0, O, ρ, S, Good.bind (f := zipD2) h fun ds vs H1 e s1 r1 h1 => by
    clear e
    have S1 := S.same s1
    replace r1 := rpk_rsa (n := 2) (vs := vs) (ds := ds) r1; have s0 : Same H1 H1 := Same.refl
    unfold zipD2 at h1
    split at h1
    · rename_i x y
      cases ex : seqD x with
      | stuck => rw [ex] at h1; exact h1.elim
      | exc n => exact absurd ex (seqD_nx _ _)
      | ok xs =>
      cases ey : seqD y with
      | stuck => rw [ex, ey] at h1; exact h1.elim
      | exc n => exact absurd ey (seqD_nx _ _)
      | ok ys =>
      rw [ex, ey] at h1
      obtain ⟨v0, u0, rfl, rs0, rs1⟩ := rsa2 r1
      obtain ⟨k0, us, rfl, a0, b0⟩ := src_ofS rs0 ex
      obtain ⟨k1, ws, rfl, a1, b1⟩ := src_ofS rs1 ey
      refine ⟨k0, k1, us, ws, rfl, a0 _ _ s0 Step.refl, a1 _ _ s0 Step.refl, h1.use fun O' H' ss st ht => ?_⟩
      refine ⟨fun i d ed => ?_, a0 _ _ ss st, a1 _ _ ss st, by rw [List.length_map, List.length_zip, b0.length, b1.length]⟩
      obtain ⟨x', y', ex', ey', rfl⟩ := zip_get ed
      obtain ⟨v, ev, rv⟩ := b0.get ex'
      obtain ⟨u, eu, ru⟩ := b1.get ey'
      refine ⟨⟨a0 _ _ ss st, a1 _ _ ss st, (List.getElem?_eq_some_iff.mp ev).1, (List.getElem?_eq_some_iff.mp eu).1⟩, fun z H2 ⟨T, v', u', e1, e2, e3, e4, e5⟩ => ?_⟩
      rw [ev] at e4; cases e4
      rw [eu] at e5; cases e5
      subst e1 e3
      exact ⟨same_upd e2, new_tup ht e2 (.cons (rv.step st) (.cons (ru.step st) .nil))⟩
    · exact h1.elim⟩
theorem pis_enumb {elts : List Expr} {kk : Nat} {tpos : Pos} (hg : Gl X "enumerate") (hm : X.mg "enumerate" = none) (ha : PAs X W B Ω [a] gs)
    (hs : starEach [a] X.env = [(false, eval a X.env)] := by rfl) : PIs X W B Ω (.Tuple elts kk tpos) (.Call (.Name "enumerate" p) [a] [] pos) (xZip enumD gs) :=
  PI.imp (pi_eS hg hm ha hs) fun σ H Q ⟨H0, O0, O, ρ, S, h⟩ => ⟨H0, O0, O, ρ, S, Good.bind (f := enumD) h fun ds vs H1 e s1 r1 h1 => by
    clear e
    have S1 := S.same s1
    have s0 : Same H0 H1 := S1.keep
    unfold enumD at h1
    split at h1
    · rename_i x
      cases ex : seqD x with
      | stuck => rw [ex] at h1; exact h1.elim
      | exc n => exact absurd ex (seqD_nx _ _)
      | ok xs =>
      rw [ex] at h1
      obtain ⟨v0, rfl, rs0⟩ := rsa1 r1
      obtain ⟨k0, us, rfl, a0, b0⟩ := src_ofS rs0 ex
      refine ⟨k0, us, rfl, a0 _ _ s0 Step.refl, h1.use fun O' H' ss st ht => ?_⟩
      refine ⟨fun i d ed => ?_, a0 _ _ ss st, by rw [List.length_map, List.length_zipIdx, b0.length]⟩
      rw [List.getElem?_map, List.getElem?_zipIdx] at ed
      cases eq : xs[i]? with
      | none => rw [eq] at ed; cases ed
      | some q =>
        rw [eq] at ed; cases ed
        obtain ⟨v, ev, rv⟩ := b0.get eq
        refine ⟨⟨a0 _ _ ss st, (List.getElem?_eq_some_iff.mp ev).1⟩, fun z H2 ⟨T, v', e1, e2, e3, e4⟩ => ?_⟩
        rw [ev] at e4; cases e4
        subst e1 e3
        refine ⟨same_upd e2, new_tup ht e2 (.cons ?_ (.cons (rv.step st) .nil))⟩
        simp only [Nat.zero_add]
        exact .int _
    · exact h1.elim⟩
theorem pis_z2b {elts : List Expr} {kk : Nat} {tpos : Pos} (hg : Gl X "zip") (hm : X.mg "zip" = none) (ha : PAs X W B Ω [a, b] gs)
    (hs : starEach [a, b] X.env = (false, eval a X.env) :: starEach [b] X.env := by rfl) (hpl : (backTo pos (starEach [b] X.env)).any (·.1) = false := by rfl) : PIs X W B Ω (.Tuple elts kk tpos) (.Call (.Name "zip" p) [a, b] [] pos) (xZip zipD2 gs) :=
  PI.imp (pi_z2 hg hm ha hs hpl) fun σ H Q ⟨H0, O0, O, ρ, S, h⟩ => ⟨H0, O0, O, ρ, S, Good.bind (f := zipD2) h fun ds vs H1 e s1 r1 h1 => by
    clear e
    have S1 := S.same s1
    have s0 : Same H0 H1 := S1.keep
    unfold zipD2 at h1
    split at h1
    · rename_i x y
      cases ex : seqD x with
      | stuck => rw [ex] at h1; exact h1.elim
      | exc n => exact absurd ex (seqD_nx _ _)
      | ok xs =>
      cases ey : seqD y with
      | stuck => rw [ex, ey] at h1; exact h1.elim
      | exc n => exact absurd ey (seqD_nx _ _)
      | ok ys =>
      rw [ex, ey] at h1
      obtain ⟨v0, u0, rfl, rs0, rs1⟩ := rsa2 r1
      obtain ⟨k0, us, rfl, a0, b0⟩ := src_ofS rs0 ex
      obtain ⟨k1, ws, rfl, a1, b1⟩ := src_ofS rs1 ey
      refine ⟨k0, k1, us, ws, rfl, a0 _ _ s0 Step.refl, a1 _ _ s0 Step.refl, h1.use fun O' H' ss st ht => ?_⟩
      refine ⟨fun i d ed => ?_, a0 _ _ ss st, a1 _ _ ss st, by rw [List.length_map, List.length_zip, b0.length, b1.length]⟩
      obtain ⟨x', y', ex', ey', rfl⟩ := zip_get ed
      obtain ⟨v, ev, rv⟩ := b0.get ex'
      obtain ⟨u, eu, ru⟩ := b1.get ey'
      refine ⟨⟨a0 _ _ ss st, a1 _ _ ss st, (List.getElem?_eq_some_iff.mp ev).1, (List.getElem?_eq_some_iff.mp eu).1⟩, fun z H2 ⟨T, v', u', e1, e2, e3, e4, e5⟩ => ?_⟩
      rw [ev] at e4; cases e4
      rw [eu] at e5; cases e5
      subst e1 e3
      exact ⟨same_upd e2, new_tup ht e2 (.cons (rv.step st) (.cons (ru.step st) .nil))⟩
    · exact h1.elim⟩
theorem pis_z3b {elts : List Expr} {kk : Nat} {tpos : Pos} (hg : Gl X "zip") (hm : X.mg "zip" = none) (ha : PAs X W B Ω [a, b, c] gs)
    (hs : starEach [a, b, c] X.env = (false, eval a X.env) :: starEach [b, c] X.env := by rfl) (hpl : (backTo pos (starEach [b, c] X.env)).any (·.1) = false := by rfl) : PIs X W B Ω (.Tuple elts kk tpos) (.Call (.Name "zip" p) [a, b, c] [] pos) (xZip zipD3 gs) :=
  PI.imp (pi_z3 hg hm ha hs hpl) fun σ H Q ⟨H0, O0, O, ρ, S, h⟩ => ⟨H0, O0, O, ρ, S, Good.bind (f := zipD3) h fun ds vs H1 e s1 r1 h1 => by
    clear e
    have S1 := S.same s1
    have s0 : Same H0 H1 := S1.keep
    unfold zipD3 at h1
    split at h1
    · rename_i x y w
      cases ex : seqD x with
      | stuck => rw [ex] at h1; exact h1.elim
      | exc n => exact absurd ex (seqD_nx _ _)
      | ok xs =>
      cases ey : seqD y with
      | stuck => rw [ex, ey] at h1; exact h1.elim
      | exc n => exact absurd ey (seqD_nx _ _)
      | ok ys =>
      cases ew : seqD w with
      | stuck => rw [ex, ey, ew] at h1; exact h1.elim
      | exc n => exact absurd ew (seqD_nx _ _)
      | ok qs =>
      rw [ex, ey, ew] at h1
      obtain ⟨v0, u0, w0, rfl, rs0, rs1, rs2⟩ := rsa3 r1
      obtain ⟨k0, us, rfl, a0, b0⟩ := src_ofS rs0 ex
      obtain ⟨k1, ws, rfl, a1, b1⟩ := src_ofS rs1 ey
      obtain ⟨k2, ts, rfl, a2, b2⟩ := src_ofS rs2 ew
      refine ⟨k0, k1, k2, us, ws, ts, rfl, a0 _ _ s0 Step.refl, a1 _ _ s0 Step.refl, a2 _ _ s0 Step.refl, h1.use fun O' H' ss st ht => ?_⟩
      refine ⟨fun i d ed => ?_, a0 _ _ ss st, a1 _ _ ss st, a2 _ _ ss st, by rw [List.length_map, List.length_zip, List.length_zip, b0.length, b1.length, b2.length]⟩
      rw [List.getElem?_map] at ed
      cases eq : ((xs.zip ys).zip qs)[i]? with
      | none => rw [eq] at ed; cases ed
      | some q =>
        rw [eq] at ed; cases ed
        obtain ⟨h12, h3⟩ := List.getElem?_zip_eq_some.mp eq
        obtain ⟨h1', h2'⟩ := List.getElem?_zip_eq_some.mp h12
        obtain ⟨v, ev, rv⟩ := b0.get h1'
        obtain ⟨u, eu, ru⟩ := b1.get h2'
        obtain ⟨t, et, rt⟩ := b2.get h3
        refine ⟨⟨a0 _ _ ss st, a1 _ _ ss st, a2 _ _ ss st, (List.getElem?_eq_some_iff.mp ev).1, (List.getElem?_eq_some_iff.mp eu).1, (List.getElem?_eq_some_iff.mp et).1⟩, fun z H2 ⟨T, v', u', t', e1, e2, e3, e4, e5, e6⟩ => ?_⟩
        rw [ev] at e4; cases e4
        rw [eu] at e5; cases e5
        rw [et] at e6; cases e6
        subst e1 e3
        exact ⟨same_upd e2, new_tup ht e2 (.cons (rv.step st) (.cons (ru.step st) (.cons (rt.step st) .nil)))⟩
    · exact h1.elim⟩
theorem pis_z2Nb {tpos : Pos} {xn : Str} (hg : Gl X "zip") (hm : X.mg "zip" = none) (ha : PAs X W B Ω [a, b] gs)
    (hs : starEach [a, b] X.env = (false, eval a X.env) :: starEach [b] X.env := by rfl) (hpl : (backTo pos (starEach [b] X.env)).any (·.1) = false := by rfl) : PIs X W B Ω (.Name xn tpos) (.Call (.Name "zip" p) [a, b] [] pos) (xZip zipD2 gs) :=
  PI.imp (pi_z2N hg hm ha hs hpl) fun σ H Q ⟨H0, O0, O, ρ, S, h⟩ => ⟨H0, O0, O, ρ, S, Good.bind (f := zipD2) h fun ds vs H1 e s1 r1 h1 => by
    clear e
    have S1 := S.same s1
    have s0 : Same H0 H1 := S1.keep
    unfold zipD2 at h1
    split at h1
    · rename_i x y
      cases ex : seqD x with
      | stuck => rw [ex] at h1; exact h1.elim
      | exc n => exact absurd ex (seqD_nx _ _)
      | ok xs =>
      cases ey : seqD y with
      | stuck => rw [ex, ey] at h1; exact h1.elim
      | exc n => exact absurd ey (seqD_nx _ _)
      | ok ys =>
      rw [ex, ey] at h1
      obtain ⟨v0, u0, rfl, rs0, rs1⟩ := rsa2 r1
      obtain ⟨k0, us, rfl, a0, b0⟩ := src_ofS rs0 ex
      obtain ⟨k1, ws, rfl, a1, b1⟩ := src_ofS rs1 ey
      refine ⟨k0, k1, us, ws, rfl, a0 _ _ s0 Step.refl, a1 _ _ s0 Step.refl, h1.use fun O' H' ss st ht => ?_⟩
      refine ⟨fun i d ed => ?_, a0 _ _ ss st, a1 _ _ ss st, by rw [List.length_map, List.length_zip, b0.length, b1.length]⟩
      obtain ⟨x', y', ex', ey', rfl⟩ := zip_get ed
      obtain ⟨v, ev, rv⟩ := b0.get ex'
      obtain ⟨u, eu, ru⟩ := b1.get ey'
      refine ⟨⟨a0 _ _ ss st, a1 _ _ ss st, (List.getElem?_eq_some_iff.mp ev).1, (List.getElem?_eq_some_iff.mp eu).1⟩, fun z H2 ⟨T, v', u', e1, e2, e3, e4, e5⟩ => ?_⟩
      rw [ev] at e4; cases e4
      rw [eu] at e5; cases e5
      subst e1 e3
      exact ⟨same_upd e2, new_tup ht e2 (.cons (rv.step st) (.cons (ru.step st) .nil))⟩
    · exact h1.elim⟩
end
end MV

set_option Elab.async false
set_option linter.all false
set_option maxRecDepth 100000
set_option maxHeartbeats 4000000
namespace MV
open PySem L2
/-! ### C(..): an exception of __init__ goes where the place says -/
section
variable {X : Cx} {CX : CXT} {k : Nat} {f C : Addr} {fd : FuncData} {ps : List Str} {sp : Sp} {E : St → XK} {x : Str} {p pos : Pos} {e : Expr} {es : List Expr} {t : TA}
def tMakeS (C : Addr) (sp : Sp) (E : St → XK) (t : TA) : TE := fun σ H Q => t σ H fun vs H1 => ∀ x dx, H1 x = none → H1 dx = none → dx ≠ x →
  sp (.ref x :: vs) (upd (upd H1 dx (.own x)) x (.ins C dx [])) (fun v H2 => v = .non ∧ Q (.ref x) H2) (E σ)
theorem run_makeS {pins : List (Addr × Obj)} {σ : St} {H : Hp} {s : Shared} {Q : VK} {us : List Value} {vs : List V} (M : Mk X.K C f) (F : FnOk X.prog X.w X.K X.mg X.base CX k f fd ps sp) (hr : Room (k + 1) X.A) (hb : Binds X.K fd ps [])
    (hx : PassesAt CX X σ (E σ)) (I : Inv X pins σ H s) (r : Vals vs us)
    (h : ∀ x dx, H x = none → H dx = none → dx ≠ x → sp (.ref x :: vs) (upd (upd H dx (.own x)) x (.ins C dx [])) (fun v H2 => v = .non ∧ Q (.ref x) H2) (E σ)) :
    wpAny (model X.prog X.w) X.A (call (.ref C) us) (EP X pins σ Q) X.xe s := by
  have hq := h (s.heap.objs.size + 1) s.heap.objs.size (I.hok.fresh (Nat.le_succ _)) (I.hok.fresh (Nat.le_refl _)) (Nat.ne_of_lt (Nat.lt_succ_self _))
  have I2 := Inv.made (C := C) I
  have r2 : Vals (V.ref (s.heap.objs.size + 1) :: vs) (Value.ref (s.heap.objs.size + 1) :: us) := .cons rfl r
  have hl : (Value.ref (s.heap.objs.size + 1) :: us ++ []).length = ps.length := by
    rw [List.append_nil]
    have e := r2.length
    rw [F.len _ _ _ _ hq] at e
    exact e.symm
  have b := hb _ (Value.ref (s.heap.objs.size + 1) :: us) I2.kIn hl
  rw [List.append_nil] at b
  refine wpAny_call (make_map (f := f) I.kIn M.makes M.init (beq_iff_eq.mp M.fn) (codeAny_mono (F.run _ X.stack _ _ ⟨Value.ref (s.heap.objs.size + 1) :: us, []⟩ (Value.ref (s.heap.objs.size + 1) :: us) _ _ (E σ) (hr.make C us [])
    (I2.env0.make C us []) b r2 hq) fun r s' hq' => ?_))
  cases r with
  | error e => exact hx pins _ _ e s' I2 hq'
  | ok fl =>
    cases fl with
    | ret u =>
      obtain ⟨v, H', I3, rv, ev, q3⟩ := I2.after hq'
      subst ev
      exact ⟨rv, ⟨V.ref (s.heap.objs.size + 1), H', I3, rfl, q3⟩⟩
    | next => exact False.elim hq'
    | brk => exact False.elim hq'
    | cont => exact False.elim hq'
theorem pe_makeS (M : Mk X.K C f) (F : FnOk X.prog X.w X.K X.mg X.base CX k f fd ps sp) (hr : Room (k + 1) X.A) (hg : Gl X x) (hm : X.mg x = some (.ref C)) (hb : Binds X.K fd ps []) (hx : ∀ σ, PassesAt CX X σ (E σ))
    (ha : PA X (e :: es) t) (hdb : (x == ("__debug__" : Str)) = false := by decide) (he : starEach (e :: es) X.env = (false, eval e X.env) :: starEach es X.env := by rfl) (hpl : (backTo pos (starEach es X.env)).any (·.1) = false := by rfl) :
    PE X (.Call (.Name x p) (e :: es) [] pos) (tMakeS C sp E t) := by
  refine ⟨fun pins s σ H Q I h => ?_⟩
  refine wpAny_Call_Name_kw (ld_glob I hg hm ?_ hdb)
  refine PySem.W.callWith_K (h₀ := X.base) I.ok.mod.kin M.kp (thn (ha.run pos pins s σ H _ I h) fun us s1 ⟨vs, H1, I1, r, q⟩ => ⟨I1.kIn, ?_⟩) he hpl
  exact run_makeS M F hr hb (hx σ) I1 r q
end
end MV

set_option Elab.async false
set_option linter.all false
set_option maxRecDepth 100000
set_option maxHeartbeats 4000000
namespace MV
open PySem L2 PyProof.Rows PySem.Calls
/-! ### a list, borrowed too, times a small whole number -/
def rRepR : R2 := fun x y H Q => ∃ l xs, ∃ m : Int, x = .ref l ∧ y = .int m ∧ Rd H l (.lst xs) ∧ 0 ≤ m ∧ m ≤ 1000 ∧ xs.length * m.toNat ≤ 1000000 ∧ ∀ p, H p = none → Q (.ref p) (upd H p (.lst (List.replicate m.toNat xs).flatten))
section
variable {X : Cx}
theorem op_repR : OpR X (binaryOp .Mult) rRepR := by
  intro pins s σ H x y v u Q I rx ry h
  obtain ⟨l, xs, m, rfl, rfl, hR, hm0, hm, hz, q⟩ := h
  cases rx
  obtain ⟨t, rfl⟩ := ry
  obtain ⟨z, its, n, r, e⟩ := hR.ok I.hok
  have hl := r.length
  have hs := sizeLine_eq
  have hsz : its.toArray.size * m.toNat ≤ 1000000 := by rw [List.size_toArray, ← hl]; exact hz
  have hres : ∀ j : Nat, List.foldl (fun x1 x2 => x1 ++ x2) #[] (List.replicate (if its.toArray.isEmpty = true then 0 else j) its.toArray) = (List.replicate j its).flatten.toArray := fun j => by
    cases its with
    | nil => simp
    | cons a r' => rw [if_neg (by simp), size_rep]
  refine wpAny_binaryOp_repeat_ref (T := "list") (U := "int") (by decide) ⟨_, e, rfl⟩ (fun s' => typeIs_int s' m t) noFill_list_mul F.fills_int_mul F.slot_int_rmul repeat_list F.slot_int_index.lookup
    (call_meets F.slot_int_rmul (typeIs_int s m t) F.entry_int_rmul (F.args_int_rmul_2 _ _) (int___rmul___int_list m t l its.toArray n)
      ⟨e, rfl, ⟨_, e, rfl⟩, call_meets F.slot_list_mul ⟨_, e, rfl⟩ F.entry_list_mul (F.args_list_mul_2 _ _) (AutoListH.list___mul___list_int_3 l its.toArray n m t ?_ ?_ ?_) ⟨e, ?_⟩⟩)
  · rw [fitsIndex_both (by omega) (by omega)]; exact Bool.false_ne_true
  · omega
  · rw [notLongL (by omega)]; exact Bool.false_ne_true
  · rw [hres]
    exact ⟨.ref _, _, I.lnew (t' := s.toks) (r.rep m.toNat) (by rw [PyProof.Rows.lm_len_rep_flat, Nat.mul_comm]; omega), rfl, q _ I.fresh⟩
end
/-- a list times a number -/
def mulLD : D → D → R D
  | .list ds, .int n => if 0 ≤ n ∧ n ≤ 1000 ∧ ds.length * n.toNat ≤ 1000000 then .ok (.list (List.replicate n.toNat ds).flatten) else .stuck
  | _, _ => .stuck
theorem rep_rp {K : Fr} {O : List Addr} {H : Hp} {xs : List V} {ds : List D} (h : RpAll K O H xs ds) : ∀ m : Nat, RpAll K O H (List.replicate m xs).flatten (List.replicate m ds).flatten
  | 0 => .nil
  | m + 1 => by
    rw [List.replicate_succ, List.replicate_succ, List.flatten_cons, List.flatten_cons]
    exact h.append (rep_rp h m)
theorem nox_repR : NoX mulLD := by intro x y n; cases x <;> cases y <;> simp only [mulLD] <;> (try split) <;> simp
theorem rb_repR {X : Cx} : RB X rRepR mulLD := by
  intro O H x y dx dy d Q ht hx hy e q
  cases dx <;> cases dy <;> simp only [mulLD] at e <;> try cases e
  obtain ⟨p, xs, rfl, h1, h2⟩ := hx.lst
  obtain rfl := hy.int
  rename_i ds n
  split at e
  · rename_i c
    cases e
    exact ⟨p, xs, n, rfl, rfl, h1, c.1, c.2.1, by rw [h2.length]; exact c.2.2, fun r hr => q _ _ (same_upd hr) (new_lst ht hr (rep_rp h2 _))⟩
  · cases e
end MV

set_option maxRecDepth 100000
set_option maxHeartbeats 4000000
namespace LK
open PySem L2 MV
def top (i : Nat) : Stmt := PySem.Challenge.pw_cubebook_k56_refused_books.main.body.getD i (.Pass ⟨0, 0, 0, 0⟩)
structure Txt (K : PySem.W.Frag) (mg : Str → Option Value) (q_NoGrain q_NoLadder q_CubeError q_NoValue q_NoPick q_NoRow q_NoSuch q_NoText q_TooMuch q_Book : Addr) : Prop where
  n_ValueError : mg "ValueError" = none
  n_all : mg "all" = none
  n_bool : mg "bool" = none
  n_int : mg "int" = none
  n_isinstance : mg "isinstance" = none
  n_len : mg "len" = none
  n_list : mg "list" = none
  n_range : mg "range" = none
  n_sorted : mg "sorted" = none
  n_str : mg "str" = none
  n_tuple : mg "tuple" = none
  n_zip : mg "zip" = none
  c_FIGURES : ∃ t, mg "FIGURES" = some (.str "0123456789" t)
  c_LETTERS : ∃ t, mg "LETTERS" = some (.str "abcdefghijklmnopqrstuvwxyz" t)
  c_MOST_AXES : ∃ t, mg "MOST_AXES" = some (.int 4 t)
  c_MOST_LINES : ∃ t, mg "MOST_LINES" = some (.int 40 t)
  c_MOST_PLACES : ∃ t, mg "MOST_PLACES" = some (.int 4 t)
  c_MOST_SIGNS : ∃ t, mg "MOST_SIGNS" = some (.int 12 t)
  g_NoGrain : mg "NoGrain" = some (.ref q_NoGrain)
  g_NoLadder : mg "NoLadder" = some (.ref q_NoLadder)
  g_CubeError : mg "CubeError" = some (.ref q_CubeError)
  g_NoValue : mg "NoValue" = some (.ref q_NoValue)
  g_NoPick : mg "NoPick" = some (.ref q_NoPick)
  g_NoRow : mg "NoRow" = some (.ref q_NoRow)
  g_NoSuch : mg "NoSuch" = some (.ref q_NoSuch)
  g_NoText : mg "NoText" = some (.ref q_NoText)
  g_TooMuch : mg "TooMuch" = some (.ref q_TooMuch)
  E_NoGrain : ErrC K mg "NoGrain" q_NoGrain
  X_NoGrain : ExcC K q_NoGrain
  E_NoLadder : ErrC K mg "NoLadder" q_NoLadder
  X_NoLadder : ExcC K q_NoLadder
  x_NoLadder_CubeError : PySem.W.exmOne K (.ref q_NoLadder) (.ref q_CubeError) = some true
  k_NoLadder_NoLadder : PySem.W.kitOne K (.ref q_NoLadder) (.ref q_NoLadder) = some true
  k_NoLadder_NoValue : PySem.W.kitOne K (.ref q_NoLadder) (.ref q_NoValue) = some false
  k_NoLadder_NoGrain : PySem.W.kitOne K (.ref q_NoLadder) (.ref q_NoGrain) = some false
  k_NoLadder_NoPick : PySem.W.kitOne K (.ref q_NoLadder) (.ref q_NoPick) = some false
  k_NoLadder_NoRow : PySem.W.kitOne K (.ref q_NoLadder) (.ref q_NoRow) = some false
  k_NoLadder_NoSuch : PySem.W.kitOne K (.ref q_NoLadder) (.ref q_NoSuch) = some false
  k_NoLadder_NoText : PySem.W.kitOne K (.ref q_NoLadder) (.ref q_NoText) = some false
  k_NoLadder_TooMuch : PySem.W.kitOne K (.ref q_NoLadder) (.ref q_TooMuch) = some false
  k_NoLadder_ValueError : PySem.W.kitOne K (.ref q_NoLadder) (.type "ValueError") = some true
  C_Book : HC K mg "Book" q_Book ["axes", "amounts", "sums"]
abbrev s_is_whole : Stmt := top 5
abbrev N_is_whole : List Str := ["thing"]
theorem sc_is_whole : FnScope N_is_whole ["thing"] (defScope s_is_whole) := ⟨rfl, rfl, rfl, by decide +kernel, rfl, by decide +kernel, by decide +kernel⟩
abbrev s_is_word : Stmt := top 6
abbrev N_is_word : List Str := ["thing", "sign"]
theorem sc_is_word : FnScope N_is_word ["thing"] (defScope s_is_word) := ⟨rfl, rfl, rfl, by decide +kernel, rfl, by decide +kernel, by decide +kernel⟩
abbrev s_is_value : Stmt := top 7
abbrev N_is_value : List Str := ["thing"]
theorem sc_is_value : FnScope N_is_value ["thing"] (defScope s_is_value) := ⟨rfl, rfl, rfl, by decide +kernel, rfl, by decide +kernel, by decide +kernel⟩
abbrev s_value_key : Stmt := top 9
abbrev N_value_key : List Str := ["thing"]
theorem sc_value_key : FnScope N_value_key ["thing"] (defScope s_value_key) := ⟨rfl, rfl, rfl, by decide +kernel, rfl, by decide +kernel, by decide +kernel⟩
abbrev s_place_key : Stmt := top 10
abbrev N_place_key : List Str := ["key", "thing"]
theorem sc_place_key : FnScope N_place_key ["key"] (defScope s_place_key) := ⟨rfl, rfl, rfl, by decide +kernel, rfl, by decide +kernel, by decide +kernel⟩
abbrev s_in_order : Stmt := top 11
abbrev N_in_order : List Str := ["keys", "found", "key"]
theorem sc_in_order : FnScope N_in_order ["keys"] (defScope s_in_order) := ⟨rfl, rfl, rfl, by decide +kernel, rfl, by decide +kernel, by decide +kernel⟩
abbrev s_is_line : Stmt := top 15
abbrev N_is_line : List Str := ["thing", "part"]
theorem sc_is_line : FnScope N_is_line ["thing"] (defScope s_is_line) := ⟨rfl, rfl, rfl, by decide +kernel, rfl, by decide +kernel, by decide +kernel⟩
abbrev s_go_together : Stmt := top 16
abbrev N_go_together : List Str := ["one", "other", "at"]
theorem sc_go_together : FnScope N_go_together ["one", "other"] (defScope s_go_together) := ⟨rfl, rfl, rfl, by decide +kernel, rfl, by decide +kernel, by decide +kernel⟩
abbrev s_are_lines : Stmt := top 17
abbrev N_are_lines : List Str := ["things", "at", "other"]
theorem sc_are_lines : FnScope N_are_lines ["things"] (defScope s_are_lines) := ⟨rfl, rfl, rfl, by decide +kernel, rfl, by decide +kernel, by decide +kernel⟩
abbrev s_is_ladder : Stmt := top 18
abbrev N_is_ladder : List Str := ["thing"]
theorem sc_is_ladder : FnScope N_is_ladder ["thing"] (defScope s_is_ladder) := ⟨rfl, rfl, rfl, by decide +kernel, rfl, by decide +kernel, by decide +kernel⟩
abbrev s_whole_of : Stmt := top 19
abbrev N_whole_of : List Str := ["ladder"]
theorem sc_whole_of : FnScope N_whole_of ["ladder"] (defScope s_whole_of) := ⟨rfl, rfl, rfl, by decide +kernel, rfl, by decide +kernel, by decide +kernel⟩
abbrev s_is_level : Stmt := top 21
abbrev N_is_level : List Str := ["ladder", "thing"]
theorem sc_is_level : FnScope N_is_level ["ladder", "thing"] (defScope s_is_level) := ⟨rfl, rfl, rfl, by decide +kernel, rfl, by decide +kernel, by decide +kernel⟩
abbrev s_is_grain : Stmt := top 22
abbrev N_is_grain : List Str := ["ladders", "thing", "ladder", "level"]
theorem sc_is_grain : FnScope N_is_grain ["ladders", "thing"] (defScope s_is_grain) := ⟨rfl, rfl, rfl, by decide +kernel, rfl, by decide +kernel, by decide +kernel⟩
abbrev s_finest : Stmt := top 23
abbrev N_finest : List Str := ["ladders", "ladder"]
theorem sc_finest : FnScope N_finest ["ladders"] (defScope s_finest) := ⟨rfl, rfl, rfl, by decide +kernel, rfl, by decide +kernel, by decide +kernel⟩
abbrev s_Book_ladders : Stmt := inClass (top 36) 1
abbrev N_Book_ladders : List Str := ["self", "ladder"]
theorem sc_Book_ladders : FnScope N_Book_ladders ["self"] (defScope s_Book_ladders) := ⟨rfl, rfl, rfl, by decide +kernel, rfl, by decide +kernel, by decide +kernel⟩
abbrev s_Book_rows : Stmt := inClass (top 36) 2
abbrev N_Book_rows : List Str := ["self", "found", "key", "amount"]
theorem sc_Book_rows : FnScope N_Book_rows ["self"] (defScope s_Book_rows) := ⟨rfl, rfl, rfl, by decide +kernel, rfl, by decide +kernel, by decide +kernel⟩
abbrev s_Book_kept : Stmt := inClass (top 36) 3
abbrev N_Book_kept : List Str := ["self"]
theorem sc_Book_kept : FnScope N_Book_kept ["self"] (defScope s_Book_kept) := ⟨rfl, rfl, rfl, by decide +kernel, rfl, by decide +kernel, by decide +kernel⟩
abbrev s_Book_table_known : Stmt := inClass (top 36) 8
abbrev N_Book_table_known : List Str := ["self", "grain"]
theorem sc_Book_table_known : FnScope N_Book_table_known ["self", "grain"] (defScope s_Book_table_known) := ⟨rfl, rfl, rfl, by decide +kernel, rfl, by decide +kernel, by decide +kernel⟩
abbrev s_Book_table : Stmt := inClass (top 36) 12
abbrev N_Book_table : List Str := ["self", "grain", "cells", "key"]
theorem sc_Book_table : FnScope N_Book_table ["self", "grain"] (defScope s_Book_table) := ⟨rfl, rfl, rfl, by decide +kernel, rfl, by decide +kernel, by decide +kernel⟩
abbrev s__law_cell_at : Stmt := top 38
abbrev N__law_cell_at : List Str := ["_law_script", "_law_k"]
theorem sc__law_cell_at : FnScope N__law_cell_at ["_law_script", "_law_k"] (defScope s__law_cell_at) := ⟨rfl, rfl, rfl, by decide +kernel, rfl, by decide +kernel, by decide +kernel⟩
abbrev s__law_stream : Stmt := top 39
abbrev N__law_stream : List Str := ["_law_cell_here", "_law_many", "_law_number", "_law_found", "_law_k"]
theorem sc__law_stream : FnScope N__law_stream ["_law_cell_here", "_law_many"] (defScope s__law_stream) := ⟨rfl, rfl, rfl, by decide +kernel, rfl, by decide +kernel, by decide +kernel⟩
abbrev s__law_named : Stmt := top 40
abbrev N__law_named : List Str := ["_law_cell_here", "_law_way", "_law_k", "_law_signs", "_law_size", "_law_at", "_law_word", "_law_j"]
theorem sc__law_named : FnScope N__law_named ["_law_cell_here", "_law_way", "_law_k"] (defScope s__law_named) := ⟨rfl, rfl, rfl, by decide +kernel, rfl, by decide +kernel, by decide +kernel⟩
abbrev s__law_ladder : Stmt := top 41
abbrev N__law_ladder : List Str := ["_law_cell_here", "_law_xs", "_law_many", "_law_places", "_law_sizes", "_law_j", "_law_lines", "_law_k", "_law_line", "_law_at"]
theorem sc__law_ladder : FnScope N__law_ladder ["_law_cell_here"] (defScope s__law_ladder) := ⟨rfl, rfl, rfl, by decide +kernel, rfl, by decide +kernel, by decide +kernel⟩
abbrev s__law_ladders : Stmt := top 42
abbrev N__law_ladders : List Str := ["_law_script", "_law_many", "_law_ladders_here", "_law_k", "_law_ladder_here"]
theorem sc__law_ladders : FnScope N__law_ladders ["_law_script"] (defScope s__law_ladders) := ⟨rfl, rfl, rfl, by decide +kernel, rfl, by decide +kernel, by decide +kernel⟩
abbrev s__law_spoiled_ladder : Stmt := top 49
abbrev N__law_spoiled_ladder : List Str := ["_law_ladder_here", "_law_cell_here", "_law_way", "_law_line", "_law_new", "_law_many", "_law_k"]
theorem sc__law_spoiled_ladder : FnScope N__law_spoiled_ladder ["_law_ladder_here", "_law_cell_here"] (defScope s__law_spoiled_ladder) := ⟨rfl, rfl, rfl, by decide +kernel, rfl, by decide +kernel, by decide +kernel⟩
abbrev s__law_spoiled : Stmt := top 50
abbrev N__law_spoiled : List Str := ["_law_ladders_here", "_law_cell_here", "_law_way", "_law_at"]
theorem sc__law_spoiled : FnScope N__law_spoiled ["_law_ladders_here", "_law_cell_here"] (defScope s__law_spoiled) := ⟨rfl, rfl, rfl, by decide +kernel, rfl, by decide +kernel, by decide +kernel⟩
-- is_whole: thing 0
def m_is_whole : YF := (yRet (xAnd (x1 (isiF "int") (xVar 0)) (x1 notD (x1 (isiF "bool") (xVar 0)))))
def g_is_whole : List D → R D := runF 1 false m_is_whole
-- is_word: thing 0, sign 1
def e_is_word_5 : MV.Env → R D := (xOr (x2 inD (xVar 1) (xC (.str "abcdefghijklmnopqrstuvwxyz"))) (x2 inD (xVar 1) (xC (.str "0123456789"))))
def t_is_word_5 : YF := (yRet (xCall allF (aCons (xLc [1] (xSeq (xVar 0)) (bName 1) tYesX e_is_word_5) aNil)))
def t_is_word_3 : YF := (ySeq (yIf (bOr (xT (x2 eqD (xVar 0) (xC (.str "")))) (bOr (xT (x2 gtD (xCall lenF (aCons (xVar 0) aNil)) (xC (.int 12)))) (xT (x2 notInD (x2 ixD (xVar 0) (xC (.int 0))) (xC (.str "abcdefghijklmnopqrstuvwxyz")))))) (yRet (xC (.bool false))) yNil) t_is_word_5)
def m_is_word : YF := (ySeq (yIf (bNot (xT (x1 (isiF "str") (xVar 0)))) (yRet (xC (.bool false))) yNil) t_is_word_3)
def g_is_word : List D → R D := runF 2 false m_is_word
-- is_value: thing 0
def m_is_value : YF := (yRet (xOr (xCall g_is_whole (aCons (xVar 0) aNil)) (xCall g_is_word (aCons (xVar 0) aNil))))
def g_is_value : List D → R D := runF 1 false m_is_value
-- value_key: thing 0
def t_value_key_5 : YF := (yRet (xTup (aCons (xC (.int 2)) (aCons (xC (.int 0)) (aCons (xVar 0) aNil)))))
def t_value_key_3 : YF := (ySeq (yIf (xT (xCall g_is_whole (aCons (xVar 0) aNil))) (yRet (xTup (aCons (xC (.int 1)) (aCons (xVar 0) (aCons (xC (.str "")) aNil))))) yNil) t_value_key_5)
def m_value_key : YF := (ySeq (yIf (xT (x2 isD (xVar 0) (xC .none))) (yRet (xTup (aCons (xC (.int 0)) (aCons (xC (.int 0)) (aCons (xC (.str "")) aNil))))) yNil) t_value_key_3)
def g_value_key : List D → R D := runF 1 false m_value_key
-- place_key: key 0, thing 1
def e_place_key_1 : MV.Env → R D := (xCall g_value_key (aCons (xVar 1) aNil))
def m_place_key : YF := (yRet (xCall tupF (aCons (xLc [1] (xSeq (xVar 0)) (bName 1) tYesX e_place_key_1) aNil)))
def g_place_key : List D → R D := runF 2 false m_place_key
-- in_order: keys 0, found 1, key 2
def b_in_order_2 : YF := (yIf (bOr (xT (x2 eqD (xVar 1) (xLst aNil))) (xT (x2 neD (x2 ixD (xVar 1) (x1 negD (xC (.int 1)))) (xVar 2)))) (yApp 1 (xVar 2)) yNil)
def t_in_order_5 : YF := (yRet (xVar 1))
def t_in_order_2 : YF := (ySeq (yFor (xSeq (x1 (sortKD g_place_key) (xVar 0))) (bName 2) b_in_order_2) t_in_order_5)
def m_in_order : YF := (ySeq (ySet 1 (xLst aNil)) t_in_order_2)
def g_in_order : List D → R D := runF 3 true m_in_order
-- is_line: thing 0, part 1
def e_is_line_3 : MV.Env → R D := (xCall g_is_value (aCons (xVar 1) aNil))
def t_is_line_3 : YF := (yRet (xCall allF (aCons (xLc [1] (xSeq (xVar 0)) (bName 1) tYesX e_is_line_3) aNil)))
def m_is_line : YF := (ySeq (yIf (bOr (bNot (xT (x1 (isiF "tuple") (xVar 0)))) (bNot (xT (x3 leD leD (xC (.int 1)) (xCall lenF (aCons (xVar 0) aNil)) (xC (.int 4)))))) (yRet (xC (.bool false))) yNil) t_is_line_3)
def g_is_line : List D → R D := runF 2 false m_is_line
-- go_together: one 0, other 1, at 2
def b_go_together_3 : YF := (yIf (xT (x2 eqD (x2 ixD (xVar 0) (xVar 2)) (x2 ixD (xVar 1) (xVar 2)))) (yRet (x2 eqD (xSl (xVar 0) (xP (xVar 2)) xNoP) (xSl (xVar 1) (xP (xVar 2)) xNoP))) yNil)
def t_go_together_6 : YF := (yRet (xC (.bool true)))
def t_go_together_3 : YF := (ySeq (yFor (xRng rng2 (aCons (xC (.int 1)) (aCons (xCall lenF (aCons (xVar 0) aNil)) aNil))) (bName 2) b_go_together_3) t_go_together_6)
def m_go_together : YF := (ySeq (yIf (bOr (xT (x2 neD (xCall lenF (aCons (xVar 0) aNil)) (xCall lenF (aCons (xVar 1) aNil)))) (xT (x2 eqD (x2 ixD (xVar 0) (xC (.int 0))) (x2 ixD (xVar 1) (xC (.int 0)))))) (yRet (xC (.bool false))) yNil) t_go_together_3)
def g_go_together : List D → R D := runF 3 false m_go_together
-- are_lines: things 0, at 1, other 2
def b_are_lines_4 : YF := (yIf (bNot (xT (xCall g_go_together (aCons (x2 ixD (xVar 0) (xVar 1)) (aCons (xVar 2) aNil))))) (yRet (xC (.bool false))) yNil)
def t_are_lines_4 : YF := (yFor (xSeq (xSl (xVar 0) xNoP (xP (xVar 1)))) (bName 2) b_are_lines_4)
def b_are_lines_1 : YF := (ySeq (yIf (bNot (xT (xCall g_is_line (aCons (x2 ixD (xVar 0) (xVar 1)) aNil)))) (yRet (xC (.bool false))) yNil) t_are_lines_4)
def t_are_lines_7 : YF := (yRet (xC (.bool true)))
def m_are_lines : YF := (ySeq (yFor (xRng rng1 (aCons (xCall lenF (aCons (xVar 0) aNil)) aNil)) (bName 1) b_are_lines_1) t_are_lines_7)
def g_are_lines : List D → R D := runF 3 false m_are_lines
-- is_ladder: thing 0
def t_is_ladder_3 : YF := (yRet (xCall g_are_lines (aCons (xVar 0) aNil)))
def m_is_ladder : YF := (ySeq (yIf (bOr (bNot (xT (x1 (isiF "list") (xVar 0)))) (bNot (xT (x3 leD leD (xC (.int 1)) (xCall lenF (aCons (xVar 0) aNil)) (xC (.int 40)))))) (yRet (xC (.bool false))) yNil) t_is_ladder_3)
def g_is_ladder : List D → R D := runF 1 false m_is_ladder
-- whole_of: ladder 0
def m_whole_of : YF := (yRet (xCall lenF (aCons (x2 ixD (xVar 0) (xC (.int 0))) aNil)))
def g_whole_of : List D → R D := runF 1 false m_whole_of
-- is_level: ladder 0, thing 1
def m_is_level : YF := (yRet (xAnd (xCall g_is_whole (aCons (xVar 1) aNil)) (x3 leD leD (xC (.int 0)) (xVar 1) (xCall g_whole_of (aCons (xVar 0) aNil)))))
def g_is_level : List D → R D := runF 2 false m_is_level
-- is_grain: ladders 0, thing 1, ladder 2, level 3
def e_is_grain_3 : MV.Env → R D := (xCall g_is_level (aCons (xVar 2) (aCons (xVar 3) aNil)))
def t_is_grain_3 : YF := (yRet (xCall allF (aCons (xLc [2, 3] (xZip zipD2 (aCons (xVar 0) (aCons (xVar 1) aNil))) (bTup [2, 3]) tYesX e_is_grain_3) aNil)))
def m_is_grain : YF := (ySeq (yIf (bOr (bNot (xT (x1 (isiF "tuple") (xVar 1)))) (xT (x2 neD (xCall lenF (aCons (xVar 1) aNil)) (xCall lenF (aCons (xVar 0) aNil))))) (yRet (xC (.bool false))) yNil) t_is_grain_3)
def g_is_grain : List D → R D := runF 4 false m_is_grain
-- finest: ladders 0, ladder 1
def e_finest_1 : MV.Env → R D := (xC (.int 0))
def m_finest : YF := (yRet (xCall tupF (aCons (xLc [1] (xSeq (xVar 0)) (bName 1) tYesX e_finest_1) aNil)))
def g_finest : List D → R D := runF 2 false m_finest
-- Book_ladders: self 0, ladder 1
def e_Book_ladders_1 : MV.Env → R D := (xCall lstF (aCons (xVar 1) aNil))
def m_Book_ladders : YF := (yRet (xLc [1] (xSeq (x1 (fldD "Book" "axes") (xVar 0))) (bName 1) tYesX e_Book_ladders_1))
def g_Book_ladders : List D → R D := runF 2 true m_Book_ladders
-- Book_rows: self 0, found 1, key 2, amount 3
def e_Book_rows_3 : MV.Env → R D := (xTup (aCons (xVar 2) (aCons (xVar 3) aNil)))
def b_Book_rows_2 : YF := (yExt 1 (xLc [3] (xSeq (xCall sortedF (aCons (x2 ixD (x1 (fldD "Book" "amounts") (xVar 0)) (xVar 2)) aNil))) (bName 3) tYesX e_Book_rows_3))
def t_Book_rows_4 : YF := (yRet (xVar 1))
def t_Book_rows_2 : YF := (ySeq (yFor (xSeq (xCall g_in_order (aCons (xCall lstDF (aCons (x1 (fldD "Book" "amounts") (xVar 0)) aNil)) aNil))) (bName 2) b_Book_rows_2) t_Book_rows_4)
def m_Book_rows : YF := (ySeq (ySet 1 (xLst aNil)) t_Book_rows_2)
def g_Book_rows : List D → R D := runF 4 true m_Book_rows
-- Book_kept: self 0
def m_Book_kept : YF := (yRet (xCall sortTF (aCons (x1 (fldD "Book" "sums") (xVar 0)) aNil)))
def g_Book_kept : List D → R D := runF 1 true m_Book_kept
-- Book_table_known: self 0, grain 1
def m_Book_table_known : YF := (yIf (bOr (bNot (xT (xCall g_is_grain (aCons (x1 (fldD "Book" "axes") (xVar 0)) (aCons (xVar 1) aNil))))) (xT (x2 notInD (xVar 1) (x1 (fldD "Book" "sums") (xVar 0))))) (yRaise "NoGrain") yNil)
def g_Book_table_known : List D → R D := runF 2 false m_Book_table_known
-- Book_table: self 0, grain 1, cells 2, key 3
def e_Book_table_3 : MV.Env → R D := (xTup (aCons (xVar 3) (aCons (x2 ixD (xVar 2) (xVar 3)) aNil)))
def t_Book_table_3 : YF := (yRet (xLc [3] (xSeq (xCall g_in_order (aCons (xCall lstDF (aCons (xVar 2) aNil)) aNil))) (bName 3) tYesX e_Book_table_3))
def t_Book_table_2 : YF := (ySeq (ySet 2 (x2 ixD (x1 (fldD "Book" "sums") (xVar 0)) (xVar 1))) t_Book_table_3)
def m_Book_table : YF := (ySeq (yEx (xMeth "Book" "table_known" g_Book_table_known (xVar 0) (aCons (xVar 1) aNil))) t_Book_table_2)
def g_Book_table : List D → R D := runF 4 true m_Book_table
-- _law_cell_at: _law_script 0, _law_k 1
def t__law_cell_at_3 : YF := (yRet (xC (.int 0)))
def m__law_cell_at : YF := (ySeq (yIf (xT (x2 ltD (xVar 1) (xCall lenF (aCons (xVar 0) aNil)))) (yRet (x2 ixD (xVar 0) (xVar 1))) yNil) t__law_cell_at_3)
def g__law_cell_at : List D → R D := runF 2 false m__law_cell_at
-- _law_stream: _law_cell_here 0, _law_many 1, _law_number 2, _law_found 3, _law_k 4
def t__law_stream_5 : YF := (yApp 3 (x2 fdivD (xVar 2) (xC (.int 8))))
def b__law_stream_3 : YF := (ySeq (ySet 2 (x2 modD (x2 addD (x2 addD (x2 addD (x2 mulD (xVar 2) (xC (.int 45742))) (x2 fdivD (xVar 2) (xC (.int 46949)))) (x2 mulD (xC (.int 29)) (xVar 4))) (xC (.int 11))) (xC (.int 2147483647)))) t__law_stream_5)
def t__law_stream_6 : YF := (yRet (xSl (xVar 3) (xP (xC (.int 2))) xNoP))
def t__law_stream_3 : YF := (ySeq (yFor (xRng rng1 (aCons (x2 addD (xVar 1) (xC (.int 2))) aNil)) (bName 4) b__law_stream_3) t__law_stream_6)
def t__law_stream_2 : YF := (ySeq (ySet 3 (xLst aNil)) t__law_stream_3)
def m__law_stream : YF := (ySeq (ySet 2 (x2 addD (x2 modD (xVar 0) (xC (.int 2147483549))) (xC (.int 17)))) t__law_stream_2)
def g__law_stream : List D → R D := runF 5 false m__law_stream
-- _law_named: _law_cell_here 0, _law_way 1, _law_k 2, _law_signs 3, _law_size 4, _law_at 5, _law_word 6, _law_j 7
def e__law_named_6 : MV.Env → R D := (x2 ixD (xVar 3) (x2 modD (x2 addD (x2 fdivD (xVar 0) (x2 addD (xVar 7) (xC (.int 2)))) (x2 mulD (xC (.int 4)) (xVar 7))) (x2 ixD (xLst (aCons (xC (.int 36)) (aCons (xC (.int 26)) aNil))) (xCall intTF (aCons (x2 eqD (xVar 7) (xC (.int 0))) aNil)))))
def t__law_named_8 : YF := (yRet (xM1 joinS (xC (.str "")) (xVar 6)))
def t__law_named_7 : YF := (ySeq (ySub 6 (xVar 5) (x2 ixD (xVar 3) (x2 modD (x2 addD (x2 addD (x2 fdivD (xVar 0) (x2 addD (xVar 5) (xC (.int 2)))) (x2 mulD (xC (.int 4)) (xVar 5))) (x2 mulD (xC (.int 5)) (xVar 2))) (x2 ixD (xLst (aCons (xC (.int 36)) (aCons (xC (.int 26)) aNil))) (xCall intTF (aCons (x2 eqD (xVar 5) (xC (.int 0))) aNil)))))) t__law_named_8)
def t__law_named_6 : YF := (ySeq (ySet 6 (xLc [7] (xRng rng1 (aCons (xVar 4) aNil)) (bName 7) tYesX e__law_named_6)) t__law_named_7)
def t__law_named_5 : YF := (ySeq (ySet 5 (x2 modD (x2 fdivD (xVar 0) (xC (.int 12))) (xVar 4))) t__law_named_6)
def t__law_named_4 : YF := (ySeq (ySet 4 (x2 addD (xC (.int 1)) (x2 modD (xVar 0) (xC (.int 12))))) t__law_named_5)
def t__law_named_3 : YF := (ySeq (ySet 3 (xC (.str "abcdefghijklmnopqrstuvwxyz0123456789"))) t__law_named_4)
def m__law_named : YF := (ySeq (yIf (xT (x2 eqD (xVar 1) (xC (.int 0)))) (yRet (x2 addD (x2 subD (x2 modD (xVar 0) (x2 powD (xC (.int 10)) (xC (.int 30)))) (x2 mulD (xC (.int 5)) (x2 powD (xC (.int 10)) (xC (.int 29))))) (xVar 2))) yNil) t__law_named_3)
def g__law_named : List D → R D := runF 8 false m__law_named
-- _law_ladder: _law_cell_here 0, _law_xs 1, _law_many 2, _law_places 3, _law_sizes 4, _law_j 5, _law_lines 6, _law_k 7, _law_line 8, _law_at 9
def b__law_ladder_5 : YF := (yApp 4 (x2 addD (xC (.int 1)) (x2 modD (x2 ixD (xVar 1) (x2 addD (xC (.int 2)) (xVar 5))) (x2 ixD (xVar 4) (x2 subD (xVar 5) (xC (.int 1)))))))
def t__law_ladder_14 : YF := (yApp 8 (xCall g__law_named (aCons (x2 addD (xVar 0) (x2 mulD (x2 ixD (xVar 1) (xC (.int 2))) (x2 modD (x2 ixD (xVar 1) (xC (.int 6))) (xC (.int 2))))) (aCons (x2 modD (x2 addD (x2 ixD (xVar 1) (xC (.int 7))) (x2 mulD (xVar 5) (x2 modD (x2 ixD (xVar 1) (xC (.int 8))) (xC (.int 2))))) (xC (.int 2))) (aCons (xVar 9) aNil)))))
def b__law_ladder_11 : YF := (ySeq (yIf (xT (x2 gtD (xVar 5) (xC (.int 0)))) (ySet 9 (x2 modD (x2 ixD (xVar 1) (x2 addD (x2 addD (xC (.int 7)) (x2 mulD (xC (.int 7)) (xVar 5))) (xVar 9))) (x2 ixD (xVar 4) (xVar 5)))) yNil) t__law_ladder_14)
def t__law_ladder_15 : YF := (yApp 6 (xCall tupF (aCons (xVar 8) aNil)))
def t__law_ladder_11 : YF := (ySeq (yFor (xRng rng1 (aCons (xVar 3) aNil)) (bName 5) b__law_ladder_11) t__law_ladder_15)
def t__law_ladder_10 : YF := (ySeq (ySet 9 (x2 modD (x2 addD (xVar 7) (x2 ixD (xVar 1) (xC (.int 2)))) (xVar 2))) t__law_ladder_11)
def b__law_ladder_8 : YF := (ySeq (ySet 8 (xLst aNil)) t__law_ladder_10)
def t__law_ladder_16 : YF := (yRet (xVar 6))
def t__law_ladder_8 : YF := (ySeq (yFor (xRng rng1 (aCons (xVar 2) aNil)) (bName 7) b__law_ladder_8) t__law_ladder_16)
def t__law_ladder_7 : YF := (ySeq (ySet 6 (xLst aNil)) t__law_ladder_8)
def t__law_ladder_5 : YF := (ySeq (yFor (xRng rng2 (aCons (xC (.int 1)) (aCons (xVar 3) aNil))) (bName 5) b__law_ladder_5) t__law_ladder_7)
def t__law_ladder_4 : YF := (ySeq (ySet 4 (xLst (aCons (xVar 2) aNil))) t__law_ladder_5)
def t__law_ladder_3 : YF := (ySeq (ySet 3 (x2 ixD (xLst (aCons (xC (.int 2)) (aCons (xC (.int 1)) (aCons (xC (.int 3)) (aCons (xC (.int 2)) (aCons (xC (.int 3)) (aCons (xC (.int 4)) (aCons (xC (.int 2)) (aCons (xC (.int 3)) aNil))))))))) (x2 modD (x2 ixD (xVar 1) (xC (.int 1))) (xC (.int 8))))) t__law_ladder_4)
def t__law_ladder_2 : YF := (ySeq (ySet 2 (x2 addD (xC (.int 1)) (x2 modD (x2 ixD (xVar 1) (xC (.int 0))) (xC (.int 6))))) t__law_ladder_3)
def m__law_ladder : YF := (ySeq (ySet 1 (xCall g__law_stream (aCons (xVar 0) (aCons (xC (.int 40)) aNil)))) t__law_ladder_2)
def g__law_ladder : List D → R D := runF 10 true m__law_ladder
-- _law_ladders: _law_script 0, _law_many 1, _law_ladders_here 2, _law_k 3, _law_ladder_here 4
def e__law_ladders_2 : MV.Env → R D := (xCall g__law_ladder (aCons (x2 addD (xCall g__law_cell_at (aCons (xVar 0) (aCons (x2 addD (xC (.int 1)) (xVar 3)) aNil))) (x2 mulD (xC (.int 1000)) (xVar 3))) aNil))
def e__law_ladders_4 : MV.Env → R D := (xSl (xVar 4) xNoP (xP (xC (.int 3))))
def t__law_ladders_5 : YF := (yRet (xVar 2))
def t__law_ladders_3 : YF := (ySeq (yIf (xT (x2 eqD (xVar 1) (xC (.int 4)))) (ySet 2 (xLc [4] (xSeq (xVar 2)) (bName 4) tYesX e__law_ladders_4)) yNil) t__law_ladders_5)
def t__law_ladders_2 : YF := (ySeq (ySet 2 (xLc [3] (xRng rng1 (aCons (xVar 1) aNil)) (bName 3) tYesX e__law_ladders_2)) t__law_ladders_3)
def m__law_ladders : YF := (ySeq (ySet 1 (x2 ixD (xLst (aCons (xC (.int 2)) (aCons (xC (.int 1)) (aCons (xC (.int 2)) (aCons (xC (.int 3)) (aCons (xC (.int 1)) (aCons (xC (.int 2)) (aCons (xC (.int 3)) (aCons (xC (.int 4)) aNil))))))))) (x2 modD (xCall g__law_cell_at (aCons (xVar 0) (aCons (xC (.int 0)) aNil))) (xC (.int 8))))) t__law_ladders_2)
def g__law_ladders : List D → R D := runF 5 true m__law_ladders
-- _law_spoiled_ladder: _law_ladder_here 0, _law_cell_here 1, _law_way 2, _law_line 3, _law_new 4, _law_many 5, _law_k 6
def e__law_spoiled_ladder_17 : MV.Env → R D := (x2 addD (xTup (aCons (x2 addD (x2 powD (xC (.int 10)) (xC (.int 43))) (xVar 6)) aNil)) (xSl (xVar 3) (xP (xC (.int 1))) xNoP))
def t__law_spoiled_ladder_17 : YF := (yRet (x2 addD (xVar 0) (xLc [6] (xRng rng1 (aCons (xVar 5) aNil)) (bName 6) tYesX e__law_spoiled_ladder_17)))
def t__law_spoiled_ladder_16 : YF := (ySeq (ySet 5 (x2 subD (xC (.int 41)) (xCall lenF (aCons (xVar 0) aNil)))) t__law_spoiled_ladder_17)
def t__law_spoiled_ladder_14 : YF := (ySeq (yIf (bAnd (xT (x2 eqD (xVar 2) (xC (.int 10)))) (xT (x2 gtD (xCall lenF (aCons (xVar 3) aNil)) (xC (.int 2))))) (yRet (x2 addD (xVar 0) (xLst (aCons (x2 addD (x2 addD (xTup (aCons (xVar 4) aNil)) (xSl (xVar 3) (xP (xC (.int 1))) (xP (x1 negD (xC (.int 1)))))) (xTup (aCons (x2 powD (xC (.int 10)) (xC (.int 42))) aNil))) aNil)))) yNil) t__law_spoiled_ladder_16)
def t__law_spoiled_ladder_12 : YF := (ySeq (yIf (xT (x2 ltD (xVar 2) (xC (.int 10)))) (yRet (x2 addD (xVar 0) (xLst (aCons (x2 addD (xTup (aCons (x2 ixD (xLst (aCons (xC (.bool true)) (aCons (xC .none) (aCons (xC (.str "Ab")) aNil)))) (x2 subD (xVar 2) (xC (.int 7)))) aNil)) (xSl (xVar 3) (xP (xC (.int 1))) xNoP)) aNil)))) yNil) t__law_spoiled_ladder_14)
def t__law_spoiled_ladder_10 : YF := (ySeq (yIf (xT (x2 eqD (xVar 2) (xC (.int 6)))) (yRet (x2 addD (xVar 0) (xLst (aCons (x2 addD (xTup (aCons (xVar 4) aNil)) (xVar 3)) aNil)))) yNil) t__law_spoiled_ladder_12)
def t__law_spoiled_ladder_8 : YF := (ySeq (yIf (xT (x2 eqD (xVar 2) (xC (.int 5)))) (yRet (x2 addD (xVar 0) (xLst (aCons (x2 addD (xLst (aCons (xVar 4) aNil)) (xCall lstF (aCons (xSl (xVar 3) (xP (xC (.int 1))) xNoP) aNil))) aNil)))) yNil) t__law_spoiled_ladder_10)
def t__law_spoiled_ladder_6 : YF := (ySeq (yIf (xT (x2 eqD (xVar 2) (xC (.int 4)))) (yRet (x2 addD (xVar 0) (xLst (aCons (xVar 3) aNil)))) yNil) t__law_spoiled_ladder_8)
def t__law_spoiled_ladder_4 : YF := (ySeq (yIf (xT (x2 ltD (xVar 2) (xC (.int 4)))) (yRet (x2 ixD (xLst (aCons (xCall tupF (aCons (xVar 0) aNil)) (aCons (xLst aNil) (aCons (xC .none) (aCons (xVar 3) aNil))))) (xVar 2))) yNil) t__law_spoiled_ladder_6)
def t__law_spoiled_ladder_3 : YF := (ySeq (ySet 4 (x2 addD (x2 powD (xC (.int 10)) (xC (.int 41))) (x2 modD (x2 fdivD (xVar 1) (xC (.int 12))) (xC (.int 7))))) t__law_spoiled_ladder_4)
def t__law_spoiled_ladder_2 : YF := (ySeq (ySet 3 (x2 ixD (xVar 0) (x2 modD (x2 fdivD (xVar 1) (xC (.int 12))) (xCall lenF (aCons (xVar 0) aNil))))) t__law_spoiled_ladder_3)
def m__law_spoiled_ladder : YF := (ySeq (ySet 2 (x2 modD (xVar 1) (xC (.int 12)))) t__law_spoiled_ladder_2)
def g__law_spoiled_ladder : List D → R D := runF 7 false m__law_spoiled_ladder
-- _law_spoiled: _law_ladders_here 0, _law_cell_here 1, _law_way 2, _law_at 3
def t__law_spoiled_13 : YF := (yRet (x2 addD (x2 addD (xSl (xVar 0) xNoP (xP (xVar 3))) (xLst (aCons (xCall g__law_spoiled_ladder (aCons (x2 ixD (xVar 0) (xVar 3)) (aCons (x2 fdivD (xVar 1) (xC (.int 56))) aNil))) aNil))) (xSl (xVar 0) (xP (x2 addD (xVar 3) (xC (.int 1)))) xNoP)))
def t__law_spoiled_12 : YF := (ySeq (ySet 3 (x2 modD (x2 fdivD (xVar 1) (xC (.int 14))) (xCall lenF (aCons (xVar 0) aNil)))) t__law_spoiled_13)
def t__law_spoiled_10 : YF := (ySeq (yIf (xT (x2 ltD (xVar 2) (xC (.int 7)))) (yRet (x2 ixD (xLst (aCons (xC .none) (aCons (x2 modD (x2 fdivD (xVar 1) (xC (.int 14))) (x2 powD (xC (.int 10)) (xC (.int 60)))) (aCons (xC (.str "axis")) aNil)))) (x2 subD (xVar 2) (xC (.int 4))))) yNil) t__law_spoiled_12)
def t__law_spoiled_8 : YF := (ySeq (yIf (xT (x2 eqD (xVar 2) (xC (.int 3)))) (yRet (x2 ixD (xVar 0) (xC (.int 0)))) yNil) t__law_spoiled_10)
def t__law_spoiled_6 : YF := (ySeq (yIf (xT (x2 eqD (xVar 2) (xC (.int 2)))) (yRet (xCall tupF (aCons (xVar 0) aNil))) yNil) t__law_spoiled_8)
def t__law_spoiled_4 : YF := (ySeq (yIf (xT (x2 eqD (xVar 2) (xC (.int 1)))) (yRet (xSl (x2 mulLD (xVar 0) (xC (.int 5))) xNoP (xP (xC (.int 5))))) yNil) t__law_spoiled_6)
def t__law_spoiled_2 : YF := (ySeq (yIf (xT (x2 eqD (xVar 2) (xC (.int 0)))) (yRet (xLst aNil)) yNil) t__law_spoiled_4)
def m__law_spoiled : YF := (ySeq (ySet 2 (x2 modD (xVar 1) (xC (.int 14)))) t__law_spoiled_2)
def g__law_spoiled : List D → R D := runF 4 false m__law_spoiled
section
variable {P : Program} {w : World} {K : PySem.W.Frag} {mg : Str → Option Value} {base : Heap}
theorem ok_is_whole {f : Addr} {fd : FuncData} {q_NoGrain q_NoLadder q_CubeError q_NoValue q_NoPick q_NoRow q_NoSuch q_NoText q_TooMuch q_Book : Addr} (F : Fun K "is_whole" "is_whole" s_is_whole f fd) (T : Txt K mg q_NoGrain q_NoLadder q_CubeError q_NoValue q_NoPick q_NoRow q_NoSuch q_NoText q_TooMuch q_Book) : FnOk P w K mg base (L2N.CX P w) 1 f fd ["thing"] (spM ⟨K, P, w, mg⟩ mg [true] false g_is_whole) :=
  fn_ok (Ωl := []) (Ω' := []) F sc_is_whole [true] false m_is_whole rfl fun cdv A outer s H E g0 =>
    (pys_one (py_ret rfl (px_and (px_isi rfl T.n_isinstance rfl T.n_int (by decide +kernel) rfl (pb_var (i := 0) rfl (.inl rfl))) (px_one (px_not (px_isi rfl T.n_isinstance rfl T.n_bool (by decide +kernel) rfl (pb_var (i := 0) rfl (.inl rfl))))))))
theorem ok_is_word {f : Addr} {fd : FuncData} {q_NoGrain q_NoLadder q_CubeError q_NoValue q_NoPick q_NoRow q_NoSuch q_NoText q_TooMuch q_Book : Addr} (F : Fun K "is_word" "is_word" s_is_word f fd) (T : Txt K mg q_NoGrain q_NoLadder q_CubeError q_NoValue q_NoPick q_NoRow q_NoSuch q_NoText q_TooMuch q_Book) : FnOk P w K mg base (L2N.CX P w) 1 f fd ["thing"] (spM ⟨K, P, w, mg⟩ mg [true] false g_is_word) :=
  fn_ok (Ωl := []) (Ω' := []) F sc_is_word [true] false m_is_word rfl fun cdv A outer s H E g0 =>
    (pys_cons (py_if (Ω' := []) rfl (ptx_not (ptx_val (px_isi rfl T.n_isinstance rfl T.n_str (by decide +kernel) rfl (pb_var (i := 0) rfl (.inl rfl))))) (pys_one (py_ret rfl px_bl)) pys_nil) (pys_cons (py_if (Ω' := []) rfl (ptx_w (pwx_or (ptx_cmp (op_eqD g0.u64) (nomark _) nox_eq rb_eq (pb_var (i := 0) rfl (.inl rfl)) (PX.b px_str)) (pwx_or (ptx_cmp op_gt (nomark _) nox_gt rb_gt (PX.b (px_bi cr_lenA nox_len rc_len rfl T.n_len PySem.boot_len (pak_b (pb_var (i := 0) rfl (.inl rfl)) pak_nil))) (PX.b (px_gint rfl T.c_MOST_SIGNS))) (pwx_or1 (ptx_cmp (or_notIn g0) rfl nox_notIn rb_notIn (PX.b (px_ix g0 (fun _ _ => rfl) (pb_var (i := 0) rfl (.inl rfl)) (PX.b px_int))) (PX.b (px_gstr rfl T.c_LETTERS))))))) (pys_one (py_ret rfl px_bl)) pys_nil) (pys_one (py_ret rfl (px_bi (cr_all g0.hc) nox_all rc_all rfl T.n_all (by decide +kernel) (pak_b (PX.b (PO.x (po_lc (own := [("sign", 1)]) g0 (pic_b (pb_var (i := 0) rfl (.inl rfl))) (blkOk_by (own := [("sign", 1)]) (N := N_is_word) (sc := defScope s_is_word) (by decide +kernel)) (tgu_name rfl rfl) rfl rfl (fun _ _ _ _ _ => pg_name (i := 1) g0.nd rfl (.inl rfl)) (fun _ _ _ _ _ => ptsx_nil) (fun _ _ _ _ _ => (px_or (px_cmp (or_in (g0.blk _ _ _ _ _)) rfl nox_in rb_in (pb_var (i := 1) rfl (.inl rfl)) (PX.b (px_gstr rfl T.c_LETTERS))) (px_one (px_cmp (or_in (g0.blk _ _ _ _ _)) rfl nox_in rb_in (pb_var (i := 1) rfl (.inl rfl)) (PX.b (px_gstr rfl T.c_FIGURES))))))))) pak_nil))))))
theorem ok_is_value {f : Addr} {fd : FuncData} {q_NoGrain q_NoLadder q_CubeError q_NoValue q_NoPick q_NoRow q_NoSuch q_NoText q_TooMuch q_Book : Addr} (F : Fun K "is_value" "is_value" s_is_value f fd) (T : Txt K mg q_NoGrain q_NoLadder q_CubeError q_NoValue q_NoPick q_NoRow q_NoSuch q_NoText q_TooMuch q_Book) {f_is_whole : Addr} {fd_is_whole : FuncData} (c_is_whole : DefOk P w K mg base "is_whole" f_is_whole fd_is_whole ["thing"] [true] false g_is_whole 1) {f_is_word : Addr} {fd_is_word : FuncData} (c_is_word : DefOk P w K mg base "is_word" f_is_word fd_is_word ["thing"] [true] false g_is_word 1) : FnOk P w K mg base (L2N.CX P w) 2 f fd ["thing"] (spM ⟨K, P, w, mg⟩ mg [true] false g_is_value) :=
  fn_ok (Ωl := []) (Ω' := []) F sc_is_value [true] false m_is_value rfl fun cdv A outer s H E g0 =>
    (pys_one (py_ret rfl (px_or (px_c g0 c_is_whole rfl rfl (pak_b (pb_var (i := 0) rfl (.inl rfl)) pak_nil)) (px_one (px_c g0 c_is_word rfl rfl (pak_b (pb_var (i := 0) rfl (.inl rfl)) pak_nil))))))
theorem ok_value_key {f : Addr} {fd : FuncData} {q_NoGrain q_NoLadder q_CubeError q_NoValue q_NoPick q_NoRow q_NoSuch q_NoText q_TooMuch q_Book : Addr} (F : Fun K "value_key" "value_key" s_value_key f fd) (T : Txt K mg q_NoGrain q_NoLadder q_CubeError q_NoValue q_NoPick q_NoRow q_NoSuch q_NoText q_TooMuch q_Book) {f_is_whole : Addr} {fd_is_whole : FuncData} (c_is_whole : DefOk P w K mg base "is_whole" f_is_whole fd_is_whole ["thing"] [true] false g_is_whole 1) : FnOk P w K mg base (L2N.CX P w) 2 f fd ["thing"] (spM ⟨K, P, w, mg⟩ mg [false] false g_value_key) :=
  fn_ok (Ωl := []) (Ω' := []) F sc_value_key [false] false m_value_key rfl fun cdv A outer s H E g0 =>
    (pys_cons (py_if (Ω' := []) rfl (ptx_cmp or_is (nomark _) nox_is rb_is (pb_var (i := 0) rfl (.inl rfl)) (PX.b px_non)) (pys_one (py_ret rfl (px_tup (paf_cons px_int (paf_cons px_int (paf_cons px_str paf_nil)))))) pys_nil) (pys_cons (py_if (Ω' := []) rfl (ptx_val (px_c g0 c_is_whole rfl rfl (pak_b (pb_var (i := 0) rfl (.inl rfl)) pak_nil))) (pys_one (py_ret rfl (px_tup (paf_cons px_int (paf_cons (px_var (i := 0) rfl (.inl rfl) rfl rfl) (paf_cons px_str paf_nil)))))) pys_nil) (pys_one (py_ret rfl (px_tup (paf_cons px_int (paf_cons px_int (paf_cons (px_var (i := 0) rfl (.inl rfl) rfl rfl) paf_nil))))))))
theorem ok_place_key {f : Addr} {fd : FuncData} {q_NoGrain q_NoLadder q_CubeError q_NoValue q_NoPick q_NoRow q_NoSuch q_NoText q_TooMuch q_Book : Addr} (F : Fun K "place_key" "place_key" s_place_key f fd) (T : Txt K mg q_NoGrain q_NoLadder q_CubeError q_NoValue q_NoPick q_NoRow q_NoSuch q_NoText q_TooMuch q_Book) {f_value_key : Addr} {fd_value_key : FuncData} (c_value_key : DefOk P w K mg base "value_key" f_value_key fd_value_key ["thing"] [false] false g_value_key 2) : FnOk P w K mg base (L2N.CX P w) 3 f fd ["key"] (spM ⟨K, P, w, mg⟩ mg [true] false g_place_key) :=
  fn_ok (Ωl := []) (Ω' := []) F sc_place_key [true] false m_place_key rfl fun cdv A outer s H E g0 =>
    (pys_one (py_ret rfl (px_ty call_tuple_of nox_tup rc_tup rfl T.n_tuple (by decide +kernel) (pak_b (PX.b (PO.x (po_lc (own := [("thing", 1)]) g0 (pic_b (pb_var (i := 0) rfl (.inl rfl))) (blkOk_by (own := [("thing", 1)]) (N := N_place_key) (sc := defScope s_place_key) (by decide +kernel)) (tgu_name rfl rfl) rfl rfl (fun _ _ _ _ _ => pg_name (i := 1) g0.nd rfl (.inl rfl)) (fun _ _ _ _ _ => ptsx_nil) (fun _ _ _ _ _ => (px_c (g0.blk _ _ _ _ _) c_value_key rfl rfl (pak_f (px_var (i := 1) rfl (.inl rfl) rfl rfl) pak_nil)))))) pak_nil))))
theorem ok_in_order {f : Addr} {fd : FuncData} {q_NoGrain q_NoLadder q_CubeError q_NoValue q_NoPick q_NoRow q_NoSuch q_NoText q_TooMuch q_Book : Addr} (F : Fun K "in_order" "in_order" s_in_order f fd) (T : Txt K mg q_NoGrain q_NoLadder q_CubeError q_NoValue q_NoPick q_NoRow q_NoSuch q_NoText q_TooMuch q_Book) {f_place_key : Addr} {fd_place_key : FuncData} (c_place_key : DefOk P w K mg base "place_key" f_place_key fd_place_key ["key"] [true] false g_place_key 3) : FnOk P w K mg base (L2N.CX P w) 6 f fd ["keys"] (spM ⟨K, P, w, mg⟩ mg [true] true g_in_order) :=
  fn_ok (Ωl := []) (Ω' := []) F sc_in_order [true] true m_in_order rfl fun cdv A outer s H E g0 =>
    (pys_cons (py_setO (Ω' := [1]) (i := 1) g0 rfl rfl rfl (.inl rfl) (po_lst paf_nil)) (pys_cons (py_for g0 rfl (pis_x (PO.x (po_sortKf g0 c_place_key rfl rfl T.n_sorted rfl (pb_var (i := 0) rfl (.inl rfl))))) (tgu_name rfl rfl) (pg_name (i := 2) g0.nd rfl (.inl rfl)) (pys_one (py_if (Ω' := [1]) rfl (ptx_w (pwx_or (ptx_cmp (op_eqD g0.u64) (nomark _) nox_eq rb_eq (pb_var (i := 1) rfl (.inl rfl)) (PX.b (PO.x (po_lst paf_nil)))) (pwx_or1 (ptx_cmp (op_neD g0.u64) (nomark _) nox_ne rb_ne (PX.b (px_ix g0 (fun _ _ => rfl) (pb_var (i := 1) rfl (.inl rfl)) (PX.b (px_neg px_int)))) (pb_var (i := 2) rfl (.inl rfl)))))) (pys_one (py_app (i := 1) rfl rfl rfl (pe_bm PySem.F.plainAttrs_list PySem.F.slot_list_append PySem.F.type_list_append mt_append (pe_var (i := 1) rfl (.inl rfl)) (pa_cons (px_var (i := 2) rfl (.inl rfl) rfl rfl) pa_nil)))) pys_nil))) (pys_one (py_retV (i := 1) rfl rfl (.inl rfl)))))
theorem ok_is_line {f : Addr} {fd : FuncData} {q_NoGrain q_NoLadder q_CubeError q_NoValue q_NoPick q_NoRow q_NoSuch q_NoText q_TooMuch q_Book : Addr} (F : Fun K "is_line" "is_line" s_is_line f fd) (T : Txt K mg q_NoGrain q_NoLadder q_CubeError q_NoValue q_NoPick q_NoRow q_NoSuch q_NoText q_TooMuch q_Book) {f_is_value : Addr} {fd_is_value : FuncData} (c_is_value : DefOk P w K mg base "is_value" f_is_value fd_is_value ["thing"] [true] false g_is_value 2) : FnOk P w K mg base (L2N.CX P w) 3 f fd ["thing"] (spM ⟨K, P, w, mg⟩ mg [true] false g_is_line) :=
  fn_ok (Ωl := []) (Ω' := []) F sc_is_line [true] false m_is_line rfl fun cdv A outer s H E g0 =>
    (pys_cons (py_if (Ω' := []) rfl (ptx_w (pwx_or (ptx_not (ptx_val (px_isi rfl T.n_isinstance rfl T.n_tuple (by decide +kernel) rfl (pb_var (i := 0) rfl (.inl rfl))))) (pwx_or1 (ptx_not (ptx_chain op_le op_le nox_le rb_le nox_le rb_le (PX.b px_int) (PX.b (px_bi cr_lenA nox_len rc_len rfl T.n_len PySem.boot_len (pak_b (pb_var (i := 0) rfl (.inl rfl)) pak_nil))) (PX.b (px_gint rfl T.c_MOST_PLACES))))))) (pys_one (py_ret rfl px_bl)) pys_nil) (pys_one (py_ret rfl (px_bi (cr_all g0.hc) nox_all rc_all rfl T.n_all (by decide +kernel) (pak_b (PX.b (PO.x (po_lc (own := [("part", 1)]) g0 (pic_b (pb_var (i := 0) rfl (.inl rfl))) (blkOk_by (own := [("part", 1)]) (N := N_is_line) (sc := defScope s_is_line) (by decide +kernel)) (tgu_name rfl rfl) rfl rfl (fun _ _ _ _ _ => pg_name (i := 1) g0.nd rfl (.inl rfl)) (fun _ _ _ _ _ => ptsx_nil) (fun _ _ _ _ _ => (px_c (g0.blk _ _ _ _ _) c_is_value rfl rfl (pak_b (pb_var (i := 1) rfl (.inl rfl)) pak_nil)))))) pak_nil)))))
theorem ok_go_together {f : Addr} {fd : FuncData} {q_NoGrain q_NoLadder q_CubeError q_NoValue q_NoPick q_NoRow q_NoSuch q_NoText q_TooMuch q_Book : Addr} (F : Fun K "go_together" "go_together" s_go_together f fd) (T : Txt K mg q_NoGrain q_NoLadder q_CubeError q_NoValue q_NoPick q_NoRow q_NoSuch q_NoText q_TooMuch q_Book) : FnOk P w K mg base (L2N.CX P w) 1 f fd ["one", "other"] (spM ⟨K, P, w, mg⟩ mg [true, true] false g_go_together) :=
  fn_ok (Ωl := []) (Ω' := []) F sc_go_together [true, true] false m_go_together rfl fun cdv A outer s H E g0 =>
    (pys_cons (py_if (Ω' := []) rfl (ptx_w (pwx_or (ptx_cmp (op_neD g0.u64) (nomark _) nox_ne rb_ne (PX.b (px_bi cr_lenA nox_len rc_len rfl T.n_len PySem.boot_len (pak_b (pb_var (i := 0) rfl (.inl rfl)) pak_nil))) (PX.b (px_bi cr_lenA nox_len rc_len rfl T.n_len PySem.boot_len (pak_b (pb_var (i := 1) rfl (.inl rfl)) pak_nil)))) (pwx_or1 (ptx_cmp (op_eqD g0.u64) (nomark _) nox_eq rb_eq (PX.b (px_ix g0 (fun _ _ => rfl) (pb_var (i := 0) rfl (.inl rfl)) (PX.b px_int))) (PX.b (px_ix g0 (fun _ _ => rfl) (pb_var (i := 1) rfl (.inl rfl)) (PX.b px_int))))))) (pys_one (py_ret rfl px_bl)) pys_nil) (pys_cons (py_for g0 rfl (pis_range2 rfl T.n_range (paf_cons px_int (paf_cons (px_bi cr_lenA nox_len rc_len rfl T.n_len PySem.boot_len (pak_b (pb_var (i := 0) rfl (.inl rfl)) pak_nil)) paf_nil))) (tgu_name rfl rfl) (pg_name (i := 2) g0.nd rfl (.inl rfl)) (pys_one (py_if (Ω' := []) rfl (ptx_cmp (op_eqD g0.u64) (nomark _) nox_eq rb_eq (PX.b (px_ix g0 (fun _ _ => rfl) (pb_var (i := 0) rfl (.inl rfl)) (pb_var (i := 2) rfl (.inl rfl)))) (PX.b (px_ix g0 (fun _ _ => rfl) (pb_var (i := 1) rfl (.inl rfl)) (pb_var (i := 2) rfl (.inl rfl))))) (pys_one (py_ret rfl (px_cmp (op_eqD g0.u64) (nomark _) nox_eq rb_eq (PX.b (px_slice (pb_var (i := 0) rfl (.inl rfl)) (pp_some (px_var (i := 2) rfl (.inl rfl) rfl rfl)) pp_none)) (PX.b (px_slice (pb_var (i := 1) rfl (.inl rfl)) (pp_some (px_var (i := 2) rfl (.inl rfl) rfl rfl)) pp_none))))) pys_nil))) (pys_one (py_ret rfl px_bl))))
theorem ok_are_lines {f : Addr} {fd : FuncData} {q_NoGrain q_NoLadder q_CubeError q_NoValue q_NoPick q_NoRow q_NoSuch q_NoText q_TooMuch q_Book : Addr} (F : Fun K "are_lines" "are_lines" s_are_lines f fd) (T : Txt K mg q_NoGrain q_NoLadder q_CubeError q_NoValue q_NoPick q_NoRow q_NoSuch q_NoText q_TooMuch q_Book) {f_is_line : Addr} {fd_is_line : FuncData} (c_is_line : DefOk P w K mg base "is_line" f_is_line fd_is_line ["thing"] [true] false g_is_line 3) {f_go_together : Addr} {fd_go_together : FuncData} (c_go_together : DefOk P w K mg base "go_together" f_go_together fd_go_together ["one", "other"] [true, true] false g_go_together 1) : FnOk P w K mg base (L2N.CX P w) 4 f fd ["things"] (spM ⟨K, P, w, mg⟩ mg [true] false g_are_lines) :=
  fn_ok (Ωl := []) (Ω' := []) F sc_are_lines [true] false m_are_lines rfl fun cdv A outer s H E g0 =>
    (pys_cons (py_for g0 rfl (pis_range1 rfl T.n_range (paf_cons (px_bi cr_lenA nox_len rc_len rfl T.n_len PySem.boot_len (pak_b (pb_var (i := 0) rfl (.inl rfl)) pak_nil)) paf_nil)) (tgu_name rfl rfl) (pg_name (i := 1) g0.nd rfl (.inl rfl)) (pys_cons (py_if (Ω' := []) rfl (ptx_not (ptx_val (px_c g0 c_is_line rfl rfl (pak_b (PX.b (px_ix g0 (fun _ _ => rfl) (pb_var (i := 0) rfl (.inl rfl)) (pb_var (i := 1) rfl (.inl rfl)))) pak_nil)))) (pys_one (py_ret rfl px_bl)) pys_nil) (pys_one (py_for g0 rfl (pis_x (px_slice (pb_var (i := 0) rfl (.inl rfl)) pp_none (pp_some (px_var (i := 1) rfl (.inl rfl) rfl rfl)))) (tgu_name rfl rfl) (pg_name (i := 2) g0.nd rfl (.inl rfl)) (pys_one (py_if (Ω' := []) rfl (ptx_not (ptx_val (px_c g0 c_go_together rfl rfl (pak_b (PX.b (px_ix g0 (fun _ _ => rfl) (pb_var (i := 0) rfl (.inl rfl)) (pb_var (i := 1) rfl (.inl rfl)))) (pak_b (pb_var (i := 2) rfl (.inl rfl)) pak_nil))))) (pys_one (py_ret rfl px_bl)) pys_nil)))))) (pys_one (py_ret rfl px_bl)))
theorem ok_is_ladder {f : Addr} {fd : FuncData} {q_NoGrain q_NoLadder q_CubeError q_NoValue q_NoPick q_NoRow q_NoSuch q_NoText q_TooMuch q_Book : Addr} (F : Fun K "is_ladder" "is_ladder" s_is_ladder f fd) (T : Txt K mg q_NoGrain q_NoLadder q_CubeError q_NoValue q_NoPick q_NoRow q_NoSuch q_NoText q_TooMuch q_Book) {f_are_lines : Addr} {fd_are_lines : FuncData} (c_are_lines : DefOk P w K mg base "are_lines" f_are_lines fd_are_lines ["things"] [true] false g_are_lines 4) : FnOk P w K mg base (L2N.CX P w) 5 f fd ["thing"] (spM ⟨K, P, w, mg⟩ mg [true] false g_is_ladder) :=
  fn_ok (Ωl := []) (Ω' := []) F sc_is_ladder [true] false m_is_ladder rfl fun cdv A outer s H E g0 =>
    (pys_cons (py_if (Ω' := []) rfl (ptx_w (pwx_or (ptx_not (ptx_val (px_isi rfl T.n_isinstance rfl T.n_list (by decide +kernel) rfl (pb_var (i := 0) rfl (.inl rfl))))) (pwx_or1 (ptx_not (ptx_chain op_le op_le nox_le rb_le nox_le rb_le (PX.b px_int) (PX.b (px_bi cr_lenA nox_len rc_len rfl T.n_len PySem.boot_len (pak_b (pb_var (i := 0) rfl (.inl rfl)) pak_nil))) (PX.b (px_gint rfl T.c_MOST_LINES))))))) (pys_one (py_ret rfl px_bl)) pys_nil) (pys_one (py_ret rfl (px_c g0 c_are_lines rfl rfl (pak_b (pb_var (i := 0) rfl (.inl rfl)) pak_nil)))))
theorem ok_whole_of {f : Addr} {fd : FuncData} {q_NoGrain q_NoLadder q_CubeError q_NoValue q_NoPick q_NoRow q_NoSuch q_NoText q_TooMuch q_Book : Addr} (F : Fun K "whole_of" "whole_of" s_whole_of f fd) (T : Txt K mg q_NoGrain q_NoLadder q_CubeError q_NoValue q_NoPick q_NoRow q_NoSuch q_NoText q_TooMuch q_Book) : FnOk P w K mg base (L2N.CX P w) 1 f fd ["ladder"] (spM ⟨K, P, w, mg⟩ mg [true] false g_whole_of) :=
  fn_ok (Ωl := []) (Ω' := []) F sc_whole_of [true] false m_whole_of rfl fun cdv A outer s H E g0 =>
    (pys_one (py_ret rfl (px_bi cr_lenA nox_len rc_len rfl T.n_len PySem.boot_len (pak_b (PX.b (px_ix g0 (fun _ _ => rfl) (pb_var (i := 0) rfl (.inl rfl)) (PX.b px_int))) pak_nil))))
theorem ok_is_level {f : Addr} {fd : FuncData} {q_NoGrain q_NoLadder q_CubeError q_NoValue q_NoPick q_NoRow q_NoSuch q_NoText q_TooMuch q_Book : Addr} (F : Fun K "is_level" "is_level" s_is_level f fd) (T : Txt K mg q_NoGrain q_NoLadder q_CubeError q_NoValue q_NoPick q_NoRow q_NoSuch q_NoText q_TooMuch q_Book) {f_is_whole : Addr} {fd_is_whole : FuncData} (c_is_whole : DefOk P w K mg base "is_whole" f_is_whole fd_is_whole ["thing"] [true] false g_is_whole 1) {f_whole_of : Addr} {fd_whole_of : FuncData} (c_whole_of : DefOk P w K mg base "whole_of" f_whole_of fd_whole_of ["ladder"] [true] false g_whole_of 1) : FnOk P w K mg base (L2N.CX P w) 2 f fd ["ladder", "thing"] (spM ⟨K, P, w, mg⟩ mg [true, true] false g_is_level) :=
  fn_ok (Ωl := []) (Ω' := []) F sc_is_level [true, true] false m_is_level rfl fun cdv A outer s H E g0 =>
    (pys_one (py_ret rfl (px_and (px_c g0 c_is_whole rfl rfl (pak_b (pb_var (i := 1) rfl (.inl rfl)) pak_nil)) (px_one (px_chain op_le op_le nox_le rb_le nox_le rb_le (PX.b px_int) (pb_var (i := 1) rfl (.inl rfl)) (PX.b (px_c g0 c_whole_of rfl rfl (pak_b (pb_var (i := 0) rfl (.inl rfl)) pak_nil))))))))
theorem ok_is_grain {f : Addr} {fd : FuncData} {q_NoGrain q_NoLadder q_CubeError q_NoValue q_NoPick q_NoRow q_NoSuch q_NoText q_TooMuch q_Book : Addr} (F : Fun K "is_grain" "is_grain" s_is_grain f fd) (T : Txt K mg q_NoGrain q_NoLadder q_CubeError q_NoValue q_NoPick q_NoRow q_NoSuch q_NoText q_TooMuch q_Book) {f_is_level : Addr} {fd_is_level : FuncData} (c_is_level : DefOk P w K mg base "is_level" f_is_level fd_is_level ["ladder", "thing"] [true, true] false g_is_level 2) : FnOk P w K mg base (L2N.CX P w) 3 f fd ["ladders", "thing"] (spM ⟨K, P, w, mg⟩ mg [true, true] false g_is_grain) :=
  fn_ok (Ωl := []) (Ω' := []) F sc_is_grain [true, true] false m_is_grain rfl fun cdv A outer s H E g0 =>
    (pys_cons (py_if (Ω' := []) rfl (ptx_w (pwx_or (ptx_not (ptx_val (px_isi rfl T.n_isinstance rfl T.n_tuple (by decide +kernel) rfl (pb_var (i := 1) rfl (.inl rfl))))) (pwx_or1 (ptx_cmp (op_neD g0.u64) (nomark _) nox_ne rb_ne (PX.b (px_bi cr_lenA nox_len rc_len rfl T.n_len PySem.boot_len (pak_b (pb_var (i := 1) rfl (.inl rfl)) pak_nil))) (PX.b (px_bi cr_lenA nox_len rc_len rfl T.n_len PySem.boot_len (pak_b (pb_var (i := 0) rfl (.inl rfl)) pak_nil))))))) (pys_one (py_ret rfl px_bl)) pys_nil) (pys_one (py_ret rfl (px_bi (cr_all g0.hc) nox_all rc_all rfl T.n_all (by decide +kernel) (pak_b (PX.b (PO.x (po_lc (own := [("ladder", 2), ("level", 3)]) g0 (pic_z2b rfl T.n_zip (pak_b (pb_var (i := 0) rfl (.inl rfl)) (pak_b (pb_var (i := 1) rfl (.inl rfl)) pak_nil))) (blkOk_by (own := [("ladder", 2), ("level", 3)]) (N := N_is_grain) (sc := defScope s_is_grain) (by decide +kernel)) (tgu_tup (tgsu_cons rfl rfl (tgsu_cons rfl rfl tgsu_nil)) rfl) rfl rfl (fun _ _ _ _ _ => pg_tup rfl (pgs_cons (pg_name (i := 2) g0.nd rfl (.inl rfl)) (pgs_cons (pg_name (i := 3) g0.nd rfl (.inl rfl)) pgs_nil))) (fun _ _ _ _ _ => ptsx_nil) (fun _ _ _ _ _ => (px_c (g0.blk _ _ _ _ _) c_is_level rfl rfl (pak_b (pb_var (i := 2) rfl (.inl rfl)) (pak_b (pb_var (i := 3) rfl (.inl rfl)) pak_nil))))))) pak_nil)))))
theorem ok_finest {f : Addr} {fd : FuncData} {q_NoGrain q_NoLadder q_CubeError q_NoValue q_NoPick q_NoRow q_NoSuch q_NoText q_TooMuch q_Book : Addr} (F : Fun K "finest" "finest" s_finest f fd) (T : Txt K mg q_NoGrain q_NoLadder q_CubeError q_NoValue q_NoPick q_NoRow q_NoSuch q_NoText q_TooMuch q_Book) : FnOk P w K mg base (L2N.CX P w) 1 f fd ["ladders"] (spM ⟨K, P, w, mg⟩ mg [true] false g_finest) :=
  fn_ok (Ωl := []) (Ω' := []) F sc_finest [true] false m_finest rfl fun cdv A outer s H E g0 =>
    (pys_one (py_ret rfl (px_ty call_tuple_of nox_tup rc_tup rfl T.n_tuple (by decide +kernel) (pak_b (PX.b (PO.x (po_lc (own := [("ladder", 1)]) g0 (pic_b (pb_var (i := 0) rfl (.inl rfl))) (blkOk_by (own := [("ladder", 1)]) (N := N_finest) (sc := defScope s_finest) (by decide +kernel)) (tgu_name rfl rfl) rfl rfl (fun _ _ _ _ _ => pg_name (i := 1) g0.nd rfl (.inl rfl)) (fun _ _ _ _ _ => ptsx_nil) (fun _ _ _ _ _ => px_int)))) pak_nil))))
theorem ok_Book_ladders {f : Addr} {fd : FuncData} {q_NoGrain q_NoLadder q_CubeError q_NoValue q_NoPick q_NoRow q_NoSuch q_NoText q_TooMuch q_Book : Addr} (F : Fun K "ladders" "Book.ladders" s_Book_ladders f fd) (T : Txt K mg q_NoGrain q_NoLadder q_CubeError q_NoValue q_NoPick q_NoRow q_NoSuch q_NoText q_TooMuch q_Book) : FnOk P w K mg base (L2N.CX P w) 1 f fd ["self"] (spM ⟨K, P, w, mg⟩ mg [true] true g_Book_ladders) :=
  fn_ok (Ωl := []) (Ω' := []) F sc_Book_ladders [true] true m_Book_ladders rfl fun cdv A outer s H E g0 =>
    (pys_one (py_retO rfl (po_lc (own := [("ladder", 1)]) g0 (pic_b (pb_fld T.C_Book.g T.C_Book.cl (T.C_Book.na _ (by simp)) (pb_var (i := 0) rfl (.inl rfl)))) (blkOk_by (own := [("ladder", 1)]) (N := N_Book_ladders) (sc := defScope s_Book_ladders) (by decide +kernel)) (tgu_name rfl rfl) rfl rfl (fun _ _ _ _ _ => pg_name (i := 1) g0.nd rfl (.inl rfl)) (fun _ _ _ _ _ => ptsx_nil) (fun _ _ _ _ _ => (PO.x (po_ty call_list_of nox_lst rc_lst rfl T.n_list (by decide +kernel) (pak_b (pb_var (i := 1) rfl (.inl rfl)) pak_nil)))))))
theorem ok_Book_rows {f : Addr} {fd : FuncData} {q_NoGrain q_NoLadder q_CubeError q_NoValue q_NoPick q_NoRow q_NoSuch q_NoText q_TooMuch q_Book : Addr} (F : Fun K "rows" "Book.rows" s_Book_rows f fd) (T : Txt K mg q_NoGrain q_NoLadder q_CubeError q_NoValue q_NoPick q_NoRow q_NoSuch q_NoText q_TooMuch q_Book) {f_in_order : Addr} {fd_in_order : FuncData} (c_in_order : DefOk P w K mg base "in_order" f_in_order fd_in_order ["keys"] [true] true g_in_order 6) : FnOk P w K mg base (L2N.CX P w) 7 f fd ["self"] (spM ⟨K, P, w, mg⟩ mg [true] true g_Book_rows) :=
  fn_ok (Ωl := []) (Ω' := []) F sc_Book_rows [true] true m_Book_rows rfl fun cdv A outer s H E g0 =>
    (pys_cons (py_setO (Ω' := [1]) (i := 1) g0 rfl rfl rfl (.inl rfl) (po_lst paf_nil)) (pys_cons (py_for g0 rfl (pis_x (PO.x (po_c g0 c_in_order rfl rfl (pak_b (PX.b (PO.x (po_ty (call_listDct g0.hc) nox_lstD rc_lstD rfl T.n_list (by decide +kernel) (pak_b (pb_fld T.C_Book.g T.C_Book.cl (T.C_Book.na _ (by simp)) (pb_var (i := 0) rfl (.inl rfl))) pak_nil)))) pak_nil)))) (tgu_name rfl rfl) (pg_name (i := 2) g0.nd rfl (.inr rfl)) (pys_one (py_ext (i := 1) rfl rfl rfl (pe_bm PySem.F.plainAttrs_list PySem.F.slot_list_extend PySem.F.type_list_extend mt_extR (pe_var (i := 1) rfl (.inl rfl)) (pa_cons (PX.b (PO.x (po_lc (own := [("amount", 3)]) g0 (pic_b (PX.b (PO.x (po_bi cr_sortedI nox_sorted rc_sorted rfl T.n_sorted (by decide +kernel) (pak_b (PX.b (px_ix g0 (fun _ _ => rfl) (pb_fld T.C_Book.g T.C_Book.cl (T.C_Book.na _ (by simp)) (pb_var (i := 0) rfl (.inl rfl))) (pb_var (i := 2) rfl (.inr (.inl rfl))))) pak_nil))))) (blkOk_by (own := [("amount", 3)]) (N := N_Book_rows) (sc := defScope s_Book_rows) (by decide +kernel)) (tgu_name rfl rfl) rfl rfl (fun _ _ _ _ _ => pg_name (i := 3) g0.nd rfl (.inl rfl)) (fun _ _ _ _ _ => ptsx_nil) (fun _ _ _ _ _ => (px_tup (paf_cons (px_var (i := 2) rfl (.inr (.inl rfl)) rfl rfl) (paf_cons (px_var (i := 3) rfl (.inl rfl) rfl rfl) paf_nil))))))) pa_nil))))) (pys_one (py_retV (i := 1) rfl rfl (.inl rfl)))))
theorem ok_Book_kept {f : Addr} {fd : FuncData} {q_NoGrain q_NoLadder q_CubeError q_NoValue q_NoPick q_NoRow q_NoSuch q_NoText q_TooMuch q_Book : Addr} (F : Fun K "kept" "Book.kept" s_Book_kept f fd) (T : Txt K mg q_NoGrain q_NoLadder q_CubeError q_NoValue q_NoPick q_NoRow q_NoSuch q_NoText q_TooMuch q_Book) : FnOk P w K mg base (L2N.CX P w) 1 f fd ["self"] (spM ⟨K, P, w, mg⟩ mg [true] true g_Book_kept) :=
  fn_ok (Ωl := []) (Ω' := []) F sc_Book_kept [true] true m_Book_kept rfl fun cdv A outer s H E g0 =>
    (pys_one (py_retO rfl (po_bi (cr_sortT g0.hc g0.u64) nox_sortT rc_sortT rfl T.n_sorted (by decide +kernel) (pak_b (pb_fld T.C_Book.g T.C_Book.cl (T.C_Book.na _ (by simp)) (pb_var (i := 0) rfl (.inl rfl))) pak_nil))))
theorem ok_Book_table_known {f : Addr} {fd : FuncData} {q_NoGrain q_NoLadder q_CubeError q_NoValue q_NoPick q_NoRow q_NoSuch q_NoText q_TooMuch q_Book : Addr} (F : Fun K "table_known" "Book.table_known" s_Book_table_known f fd) (T : Txt K mg q_NoGrain q_NoLadder q_CubeError q_NoValue q_NoPick q_NoRow q_NoSuch q_NoText q_TooMuch q_Book) {f_is_grain : Addr} {fd_is_grain : FuncData} (c_is_grain : DefOk P w K mg base "is_grain" f_is_grain fd_is_grain ["ladders", "thing"] [true, true] false g_is_grain 3) : FnOk P w K mg base (L2N.CX P w) 4 f fd ["self", "grain"] (spM ⟨K, P, w, mg⟩ mg [true, true] false g_Book_table_known) :=
  fn_ok (Ωl := []) (Ω' := []) F sc_Book_table_known [true, true] false m_Book_table_known rfl fun cdv A outer s H E g0 =>
    (pys_one (py_if (Ω' := []) rfl (ptx_w (pwx_or (ptx_not (ptx_val (px_c g0 c_is_grain rfl rfl (pak_b (pb_fld T.C_Book.g T.C_Book.cl (T.C_Book.na _ (by simp)) (pb_var (i := 0) rfl (.inl rfl))) (pak_b (pb_var (i := 1) rfl (.inl rfl)) pak_nil))))) (pwx_or1 (ptx_cmp (or_notIn g0) rfl nox_notIn rb_notIn (pb_var (i := 1) rfl (.inl rfl)) (pb_fld T.C_Book.g T.C_Book.cl (T.C_Book.na _ (by simp)) (pb_var (i := 0) rfl (.inl rfl))))))) (pys_one (py_raise g0 rfl T.E_NoGrain rfl)) pys_nil))
theorem ok_Book_table {f : Addr} {fd : FuncData} {q_NoGrain q_NoLadder q_CubeError q_NoValue q_NoPick q_NoRow q_NoSuch q_NoText q_TooMuch q_Book : Addr} (F : Fun K "table" "Book.table" s_Book_table f fd) (T : Txt K mg q_NoGrain q_NoLadder q_CubeError q_NoValue q_NoPick q_NoRow q_NoSuch q_NoText q_TooMuch q_Book) {f_Book_table_known : Addr} {fd_Book_table_known : FuncData} (c_Book_table_known : MthOk P w K mg base "Book" "table_known" q_Book f_Book_table_known fd_Book_table_known ["self", "grain"] [true] false g_Book_table_known 4) {f_in_order : Addr} {fd_in_order : FuncData} (c_in_order : DefOk P w K mg base "in_order" f_in_order fd_in_order ["keys"] [true] true g_in_order 6) : FnOk P w K mg base (L2N.CX P w) 7 f fd ["self", "grain"] (spM ⟨K, P, w, mg⟩ mg [true, true] true g_Book_table) :=
  fn_ok (Ωl := []) (Ω' := []) F sc_Book_table [true, true] true m_Book_table rfl fun cdv A outer s H E g0 =>
    (pys_cons (py_ex rfl (px_m g0 c_Book_table_known rfl (pb_var (i := 0) rfl (.inl rfl)) (pak_b (pb_var (i := 1) rfl (.inl rfl)) pak_nil))) (pys_cons (py_set (Ω' := []) (i := 2) g0 rfl rfl rfl (.inr rfl) (px_ix g0 (fun _ _ => rfl) (pb_fld T.C_Book.g T.C_Book.cl (T.C_Book.na _ (by simp)) (pb_var (i := 0) rfl (.inl rfl))) (pb_var (i := 1) rfl (.inl rfl)))) (pys_one (py_retO rfl (po_lc (own := [("key", 3)]) g0 (pic_b (PX.b (PO.x (po_c g0 c_in_order rfl rfl (pak_b (PX.b (PO.x (po_ty (call_listDct g0.hc) nox_lstD rc_lstD rfl T.n_list (by decide +kernel) (pak_b (pb_var (i := 2) rfl (.inr (.inl rfl))) pak_nil)))) pak_nil))))) (blkOk_by (own := [("key", 3)]) (N := N_Book_table) (sc := defScope s_Book_table) (by decide +kernel)) (tgu_name rfl rfl) rfl rfl (fun _ _ _ _ _ => pg_name (i := 3) g0.nd rfl (.inl rfl)) (fun _ _ _ _ _ => ptsx_nil) (fun _ _ _ _ _ => (px_tup (paf_cons (px_var (i := 3) rfl (.inl rfl) rfl rfl) (paf_cons (px_ix (g0.blk _ _ _ _ _) (fun _ _ => rfl) (pb_var (i := 2) rfl (.inr (.inl rfl))) (pb_var (i := 3) rfl (.inl rfl))) paf_nil)))))))))
theorem ok__law_cell_at {f : Addr} {fd : FuncData} {q_NoGrain q_NoLadder q_CubeError q_NoValue q_NoPick q_NoRow q_NoSuch q_NoText q_TooMuch q_Book : Addr} (F : Fun K "_law_cell_at" "_law_cell_at" s__law_cell_at f fd) (T : Txt K mg q_NoGrain q_NoLadder q_CubeError q_NoValue q_NoPick q_NoRow q_NoSuch q_NoText q_TooMuch q_Book) : FnOk P w K mg base (L2N.CX P w) 1 f fd ["_law_script", "_law_k"] (spM ⟨K, P, w, mg⟩ mg [true, true] false g__law_cell_at) :=
  fn_ok (Ωl := []) (Ω' := []) F sc__law_cell_at [true, true] false m__law_cell_at rfl fun cdv A outer s H E g0 =>
    (pys_cons (py_if (Ω' := []) rfl (ptx_cmp (or_lt g0.u64) (nomark _) nox_lt rb_lt (pb_var (i := 1) rfl (.inl rfl)) (PX.b (px_bi cr_lenA nox_len rc_len rfl T.n_len PySem.boot_len (pak_b (pb_var (i := 0) rfl (.inl rfl)) pak_nil)))) (pys_one (py_ret rfl (px_ix g0 (fun _ _ => rfl) (pb_var (i := 0) rfl (.inl rfl)) (pb_var (i := 1) rfl (.inl rfl))))) pys_nil) (pys_one (py_ret rfl px_int)))
theorem ok__law_stream {f : Addr} {fd : FuncData} {q_NoGrain q_NoLadder q_CubeError q_NoValue q_NoPick q_NoRow q_NoSuch q_NoText q_TooMuch q_Book : Addr} (F : Fun K "_law_stream" "_law_stream" s__law_stream f fd) (T : Txt K mg q_NoGrain q_NoLadder q_CubeError q_NoValue q_NoPick q_NoRow q_NoSuch q_NoText q_TooMuch q_Book) : FnOk P w K mg base (L2N.CX P w) 1 f fd ["_law_cell_here", "_law_many"] (spM ⟨K, P, w, mg⟩ mg [true, true] false g__law_stream) :=
  fn_ok (Ωl := []) (Ω' := []) F sc__law_stream [true, true] false m__law_stream rfl fun cdv A outer s H E g0 =>
    (pys_cons (py_set (Ω' := []) (i := 2) g0 rfl rfl rfl (.inl rfl) (px_op or_add nox_add rb_add (PX.b (px_op op_modN nox_mod rb_mod (pb_var (i := 0) rfl (.inl rfl)) (PX.b px_int))) (PX.b px_int))) (pys_cons (py_setO (Ω' := [3]) (i := 3) g0 rfl rfl rfl (.inl rfl) (po_lst paf_nil)) (pys_cons (py_for g0 rfl (pis_range1 rfl T.n_range (paf_cons (px_op or_add nox_add rb_add (pb_var (i := 1) rfl (.inl rfl)) (PX.b px_int)) paf_nil)) (tgu_name rfl rfl) (pg_name (i := 4) g0.nd rfl (.inl rfl)) (pys_cons (py_set (Ω' := [3]) (i := 2) g0 rfl rfl rfl (.inl rfl) (px_op op_modN nox_mod rb_mod (PX.b (px_op or_add nox_add rb_add (PX.b (px_op or_add nox_add rb_add (PX.b (px_op or_add nox_add rb_add (PX.b (px_op or_mul nox_mul rb_mul (pb_var (i := 2) rfl (.inl rfl)) (PX.b px_int))) (PX.b (px_op or_fdiv nox_fdiv rb_fdiv (pb_var (i := 2) rfl (.inl rfl)) (PX.b px_int))))) (PX.b (px_op or_mul nox_mul rb_mul (PX.b px_int) (pb_var (i := 4) rfl (.inl rfl)))))) (PX.b px_int))) (PX.b px_int))) (pys_one (py_app (i := 3) rfl rfl rfl (pe_bm PySem.F.plainAttrs_list PySem.F.slot_list_append PySem.F.type_list_append mt_append (pe_var (i := 3) rfl (.inl rfl)) (pa_cons (px_op or_fdiv nox_fdiv rb_fdiv (pb_var (i := 2) rfl (.inl rfl)) (PX.b px_int)) pa_nil)))))) (pys_one (py_ret rfl (px_slice (pb_var (i := 3) rfl (.inl rfl)) (pp_some px_int) pp_none))))))
theorem ok__law_named {f : Addr} {fd : FuncData} {q_NoGrain q_NoLadder q_CubeError q_NoValue q_NoPick q_NoRow q_NoSuch q_NoText q_TooMuch q_Book : Addr} (F : Fun K "_law_named" "_law_named" s__law_named f fd) (T : Txt K mg q_NoGrain q_NoLadder q_CubeError q_NoValue q_NoPick q_NoRow q_NoSuch q_NoText q_TooMuch q_Book) : FnOk P w K mg base (L2N.CX P w) 1 f fd ["_law_cell_here", "_law_way", "_law_k"] (spM ⟨K, P, w, mg⟩ mg [true, true, true] false g__law_named) :=
  fn_ok (Ωl := []) (Ω' := []) F sc__law_named [true, true, true] false m__law_named rfl fun cdv A outer s H E g0 =>
    (pys_cons (py_if (Ω' := []) rfl (ptx_cmp (op_eqD g0.u64) (nomark _) nox_eq rb_eq (pb_var (i := 1) rfl (.inl rfl)) (PX.b px_int)) (pys_one (py_ret rfl (px_op or_add nox_add rb_add (PX.b (px_op op_sub nox_sub rb_sub (PX.b (px_op op_modN nox_mod rb_mod (pb_var (i := 0) rfl (.inr (.inl rfl))) (PX.b (px_op op_pow nox_pow rb_pow (PX.b px_int) (PX.b px_int))))) (PX.b (px_op or_mul nox_mul rb_mul (PX.b px_int) (PX.b (px_op op_pow nox_pow rb_pow (PX.b px_int) (PX.b px_int))))))) (pb_var (i := 2) rfl (.inl rfl))))) pys_nil) (pys_cons (py_set (Ω' := []) (i := 3) g0 rfl rfl rfl (.inr rfl) px_str) (pys_cons (py_set (Ω' := []) (i := 4) g0 rfl rfl rfl (.inl rfl) (px_op or_add nox_add rb_add (PX.b px_int) (PX.b (px_op op_modN nox_mod rb_mod (pb_var (i := 0) rfl (.inr (.inl rfl))) (PX.b px_int))))) (pys_cons (py_set (Ω' := []) (i := 5) g0 rfl rfl rfl (.inl rfl) (px_op op_modN nox_mod rb_mod (PX.b (px_op or_fdiv nox_fdiv rb_fdiv (pb_var (i := 0) rfl (.inr (.inl rfl))) (PX.b px_int))) (pb_var (i := 4) rfl (.inl rfl)))) (pys_cons (py_setLc (Ω' := [6]) (own := [("_law_j", 7)]) g0 rfl rfl rfl rfl (sw_true rfl rfl rfl (by decide +kernel)) (PIs.c (pis_range1 rfl T.n_range (paf_cons (px_var (i := 4) rfl (.inl rfl) rfl rfl) paf_nil))) (blkOk_by (own := [("_law_j", 7)]) (N := N__law_named) (sc := defScope s__law_named) (by decide +kernel)) (tgu_name rfl rfl) rfl rfl (fun _ _ _ _ _ => pg_name (i := 7) g0.nd rfl (.inl rfl)) (fun _ _ _ _ _ => ptsx_nil) (fun _ _ _ _ _ => (px_ix (g0.blk _ _ _ _ _) (fun _ _ => rfl) (pb_var (i := 3) rfl (.inr (.inl rfl))) (PX.b (px_op op_modN nox_mod rb_mod (PX.b (px_op or_add nox_add rb_add (PX.b (px_op or_fdiv nox_fdiv rb_fdiv (pb_var (i := 0) rfl (.inr (.inl rfl))) (PX.b (px_op or_add nox_add rb_add (pb_var (i := 7) rfl (.inl rfl)) (PX.b px_int))))) (PX.b (px_op or_mul nox_mul rb_mul (PX.b px_int) (pb_var (i := 7) rfl (.inl rfl)))))) (PX.b (px_ix (g0.blk _ _ _ _ _) (fun _ _ => rfl) (PX.b (PO.x (po_lst (paf_cons px_int (paf_cons px_int paf_nil))))) (PX.b (px_ty cr_intT nox_intT rc_intT rfl T.n_int (by decide +kernel) (pak_b (PX.b (px_cmp (op_eqD (g0.blk _ _ _ _ _).u64) (nomark _) nox_eq rb_eq (pb_var (i := 7) rfl (.inl rfl)) (PX.b px_int))) pak_nil)))))))))) (pys_cons (py_sub (i := 6) rfl rfl rfl (ps_asg (px_ix g0 (fun _ _ => rfl) (pb_var (i := 3) rfl (.inr (.inl rfl))) (PX.b (px_op op_modN nox_mod rb_mod (PX.b (px_op or_add nox_add rb_add (PX.b (px_op or_add nox_add rb_add (PX.b (px_op or_fdiv nox_fdiv rb_fdiv (pb_var (i := 0) rfl (.inr (.inl rfl))) (PX.b (px_op or_add nox_add rb_add (pb_var (i := 5) rfl (.inl rfl)) (PX.b px_int))))) (PX.b (px_op or_mul nox_mul rb_mul (PX.b px_int) (pb_var (i := 5) rfl (.inl rfl)))))) (PX.b (px_op or_mul nox_mul rb_mul (PX.b px_int) (pb_var (i := 2) rfl (.inl rfl)))))) (PX.b (px_ix g0 (fun _ _ => rfl) (PX.b (PO.x (po_lst (paf_cons px_int (paf_cons px_int paf_nil))))) (PX.b (px_ty cr_intT nox_intT rc_intT rfl T.n_int (by decide +kernel) (pak_b (PX.b (px_cmp (op_eqD g0.u64) (nomark _) nox_eq rb_eq (pb_var (i := 5) rfl (.inl rfl)) (PX.b px_int))) pak_nil)))))))) (pg_sub (pe_var (i := 6) rfl (.inl rfl)) (px_var (i := 5) rfl (.inl rfl) rfl rfl) set_list))) (pys_one (py_ret rfl (px_join px_str (pb_var (i := 6) rfl (.inl rfl)))))))))))
theorem ok__law_ladder {f : Addr} {fd : FuncData} {q_NoGrain q_NoLadder q_CubeError q_NoValue q_NoPick q_NoRow q_NoSuch q_NoText q_TooMuch q_Book : Addr} (F : Fun K "_law_ladder" "_law_ladder" s__law_ladder f fd) (T : Txt K mg q_NoGrain q_NoLadder q_CubeError q_NoValue q_NoPick q_NoRow q_NoSuch q_NoText q_TooMuch q_Book) {f__law_stream : Addr} {fd__law_stream : FuncData} (c__law_stream : DefOk P w K mg base "_law_stream" f__law_stream fd__law_stream ["_law_cell_here", "_law_many"] [true, true] false g__law_stream 1) {f__law_named : Addr} {fd__law_named : FuncData} (c__law_named : DefOk P w K mg base "_law_named" f__law_named fd__law_named ["_law_cell_here", "_law_way", "_law_k"] [true, true, true] false g__law_named 1) : FnOk P w K mg base (L2N.CX P w) 2 f fd ["_law_cell_here"] (spM ⟨K, P, w, mg⟩ mg [true] true g__law_ladder) :=
  fn_ok (Ωl := []) (Ω' := []) F sc__law_ladder [true] true m__law_ladder rfl fun cdv A outer s H E g0 =>
    (pys_cons (py_set (Ω' := []) (i := 1) g0 rfl rfl rfl (.inl rfl) (px_c g0 c__law_stream rfl rfl (pak_b (pb_var (i := 0) rfl (.inl rfl)) (pak_b (PX.b px_int) pak_nil)))) (pys_cons (py_set (Ω' := []) (i := 2) g0 rfl rfl rfl (.inl rfl) (px_op or_add nox_add rb_add (PX.b px_int) (PX.b (px_op op_modN nox_mod rb_mod (PX.b (px_ix g0 (fun _ _ => rfl) (pb_var (i := 1) rfl (.inl rfl)) (PX.b px_int))) (PX.b px_int))))) (pys_cons (py_set (Ω' := []) (i := 3) g0 rfl rfl rfl (.inl rfl) (px_ix g0 (fun _ _ => rfl) (PX.b (PO.x (po_lst (paf_cons px_int (paf_cons px_int (paf_cons px_int (paf_cons px_int (paf_cons px_int (paf_cons px_int (paf_cons px_int (paf_cons px_int paf_nil))))))))))) (PX.b (px_op op_modN nox_mod rb_mod (PX.b (px_ix g0 (fun _ _ => rfl) (pb_var (i := 1) rfl (.inl rfl)) (PX.b px_int))) (PX.b px_int))))) (pys_cons (py_setO (Ω' := [4]) (i := 4) g0 rfl rfl rfl (.inl rfl) (po_lst (paf_cons (px_var (i := 2) rfl (.inl rfl) rfl rfl) paf_nil))) (pys_cons (py_for g0 rfl (pis_range2 rfl T.n_range (paf_cons px_int (paf_cons (px_var (i := 3) rfl (.inl rfl) rfl rfl) paf_nil))) (tgu_name rfl rfl) (pg_name (i := 5) g0.nd rfl (.inl rfl)) (pys_one (py_app (i := 4) rfl rfl rfl (pe_bm PySem.F.plainAttrs_list PySem.F.slot_list_append PySem.F.type_list_append mt_append (pe_var (i := 4) rfl (.inl rfl)) (pa_cons (px_op or_add nox_add rb_add (PX.b px_int) (PX.b (px_op op_modN nox_mod rb_mod (PX.b (px_ix g0 (fun _ _ => rfl) (pb_var (i := 1) rfl (.inl rfl)) (PX.b (px_op or_add nox_add rb_add (PX.b px_int) (pb_var (i := 5) rfl (.inl rfl)))))) (PX.b (px_ix g0 (fun _ _ => rfl) (pb_var (i := 4) rfl (.inl rfl)) (PX.b (px_op op_sub nox_sub rb_sub (pb_var (i := 5) rfl (.inl rfl)) (PX.b px_int)))))))) pa_nil))))) (pys_cons (py_perm (Ω' := [4, 6]) (py_setO (Ω' := [6, 4]) (i := 6) g0 rfl rfl rfl (.inl rfl) (po_lst paf_nil))) (pys_cons (py_for g0 rfl (pis_range1 rfl T.n_range (paf_cons (px_var (i := 2) rfl (.inl rfl) rfl rfl) paf_nil)) (tgu_name rfl rfl) (pg_name (i := 7) g0.nd rfl (.inl rfl)) (pys_loseE 8 (Ω' := [4, 6]) (Ω1 := [4, 6, 8]) rfl (pys_cons (py_perm (Ω' := [4, 6, 8]) (py_setO (Ω' := [8, 4, 6]) (i := 8) g0 rfl rfl rfl (.inl rfl) (po_lst paf_nil))) (pys_cons (py_set (Ω' := [4, 6, 8]) (i := 9) g0 rfl rfl rfl (.inl rfl) (px_op op_modN nox_mod rb_mod (PX.b (px_op or_add nox_add rb_add (pb_var (i := 7) rfl (.inl rfl)) (PX.b (px_ix g0 (fun _ _ => rfl) (pb_var (i := 1) rfl (.inl rfl)) (PX.b px_int))))) (pb_var (i := 2) rfl (.inl rfl)))) (pys_cons (py_for g0 rfl (pis_range1 rfl T.n_range (paf_cons (px_var (i := 3) rfl (.inl rfl) rfl rfl) paf_nil)) (tgu_name rfl rfl) (pg_name (i := 5) g0.nd rfl (.inl rfl)) (pys_cons (py_if (Ω' := [4, 6, 8]) rfl (ptx_cmp op_gt (nomark _) nox_gt rb_gt (pb_var (i := 5) rfl (.inl rfl)) (PX.b px_int)) (pys_one (py_set (Ω' := [4, 6, 8]) (i := 9) g0 rfl rfl rfl (.inl rfl) (px_op op_modN nox_mod rb_mod (PX.b (px_ix g0 (fun _ _ => rfl) (pb_var (i := 1) rfl (.inl rfl)) (PX.b (px_op or_add nox_add rb_add (PX.b (px_op or_add nox_add rb_add (PX.b px_int) (PX.b (px_op or_mul nox_mul rb_mul (PX.b px_int) (pb_var (i := 5) rfl (.inl rfl)))))) (pb_var (i := 9) rfl (.inl rfl)))))) (PX.b (px_ix g0 (fun _ _ => rfl) (pb_var (i := 4) rfl (.inl rfl)) (pb_var (i := 5) rfl (.inl rfl))))))) pys_nil) (pys_one (py_app (i := 8) rfl rfl rfl (pe_bm PySem.F.plainAttrs_list PySem.F.slot_list_append PySem.F.type_list_append mt_append (pe_var (i := 8) rfl (.inl rfl)) (pa_cons (px_c g0 c__law_named rfl rfl (pak_b (PX.b (px_op or_add nox_add rb_add (pb_var (i := 0) rfl (.inl rfl)) (PX.b (px_op or_mul nox_mul rb_mul (PX.b (px_ix g0 (fun _ _ => rfl) (pb_var (i := 1) rfl (.inl rfl)) (PX.b px_int))) (PX.b (px_op op_modN nox_mod rb_mod (PX.b (px_ix g0 (fun _ _ => rfl) (pb_var (i := 1) rfl (.inl rfl)) (PX.b px_int))) (PX.b px_int))))))) (pak_b (PX.b (px_op op_modN nox_mod rb_mod (PX.b (px_op or_add nox_add rb_add (PX.b (px_ix g0 (fun _ _ => rfl) (pb_var (i := 1) rfl (.inl rfl)) (PX.b px_int))) (PX.b (px_op or_mul nox_mul rb_mul (pb_var (i := 5) rfl (.inl rfl)) (PX.b (px_op op_modN nox_mod rb_mod (PX.b (px_ix g0 (fun _ _ => rfl) (pb_var (i := 1) rfl (.inl rfl)) (PX.b px_int))) (PX.b px_int))))))) (PX.b px_int))) (pak_b (pb_var (i := 9) rfl (.inl rfl)) pak_nil)))) pa_nil)))))) (pys_one (py_app (i := 6) rfl rfl rfl (pe_bm PySem.F.plainAttrs_list PySem.F.slot_list_append PySem.F.type_list_append mt_append (pe_var (i := 6) rfl (.inl rfl)) (pa_cons (px_ty call_tuple_of nox_tup rc_tup rfl T.n_tuple (by decide +kernel) (pak_b (pb_var (i := 8) rfl (.inl rfl)) pak_nil)) pa_nil))))))))) (pys_one (py_retV (i := 6) rfl rfl (.inl rfl))))))))))
theorem ok__law_ladders {f : Addr} {fd : FuncData} {q_NoGrain q_NoLadder q_CubeError q_NoValue q_NoPick q_NoRow q_NoSuch q_NoText q_TooMuch q_Book : Addr} (F : Fun K "_law_ladders" "_law_ladders" s__law_ladders f fd) (T : Txt K mg q_NoGrain q_NoLadder q_CubeError q_NoValue q_NoPick q_NoRow q_NoSuch q_NoText q_TooMuch q_Book) {f__law_cell_at : Addr} {fd__law_cell_at : FuncData} (c__law_cell_at : DefOk P w K mg base "_law_cell_at" f__law_cell_at fd__law_cell_at ["_law_script", "_law_k"] [true, true] false g__law_cell_at 1) {f__law_ladder : Addr} {fd__law_ladder : FuncData} (c__law_ladder : DefOk P w K mg base "_law_ladder" f__law_ladder fd__law_ladder ["_law_cell_here"] [true] true g__law_ladder 2) : FnOk P w K mg base (L2N.CX P w) 3 f fd ["_law_script"] (spM ⟨K, P, w, mg⟩ mg [true] true g__law_ladders) :=
  fn_ok (Ωl := []) (Ω' := []) F sc__law_ladders [true] true m__law_ladders rfl fun cdv A outer s H E g0 =>
    (pys_cons (py_set (Ω' := []) (i := 1) g0 rfl rfl rfl (.inl rfl) (px_ix g0 (fun _ _ => rfl) (PX.b (PO.x (po_lst (paf_cons px_int (paf_cons px_int (paf_cons px_int (paf_cons px_int (paf_cons px_int (paf_cons px_int (paf_cons px_int (paf_cons px_int paf_nil))))))))))) (PX.b (px_op op_modN nox_mod rb_mod (PX.b (px_c g0 c__law_cell_at rfl rfl (pak_b (pb_var (i := 0) rfl (.inr (.inl rfl))) (pak_b (PX.b px_int) pak_nil)))) (PX.b px_int))))) (pys_cons (py_setLc (Ω' := [2]) (own := [("_law_k", 3)]) g0 rfl rfl rfl rfl (sw_true rfl rfl rfl (by decide +kernel)) (PIs.c (pis_range1 rfl T.n_range (paf_cons (px_var (i := 1) rfl (.inl rfl) rfl rfl) paf_nil))) (blkOk_by (own := [("_law_k", 3)]) (N := N__law_ladders) (sc := defScope s__law_ladders) (by decide +kernel)) (tgu_name rfl rfl) rfl rfl (fun _ _ _ _ _ => pg_name (i := 3) g0.nd rfl (.inl rfl)) (fun _ _ _ _ _ => ptsx_nil) (fun _ _ _ _ _ => (PO.x (po_c (g0.blk _ _ _ _ _) c__law_ladder rfl rfl (pak_b (PX.b (px_op or_add nox_add rb_add (PX.b (px_c (g0.blk _ _ _ _ _) c__law_cell_at rfl rfl (pak_b (pb_var (i := 0) rfl (.inr (.inl rfl))) (pak_b (PX.b (px_op or_add nox_add rb_add (PX.b px_int) (pb_var (i := 3) rfl (.inl rfl)))) pak_nil)))) (PX.b (px_op or_mul nox_mul rb_mul (PX.b px_int) (pb_var (i := 3) rfl (.inl rfl)))))) pak_nil))))) (pys_cons (py_if (Ω' := [2]) rfl (ptx_cmp (op_eqD g0.u64) (nomark _) nox_eq rb_eq (pb_var (i := 1) rfl (.inl rfl)) (PX.b px_int)) (pys_one (py_setLc (Ω' := [2]) (own := [("_law_ladder_here", 4)]) g0 rfl rfl rfl rfl (sw_true rfl rfl rfl (by decide +kernel)) (pic_b (pb_var (i := 2) rfl (.inl rfl))) (blkOk_by (own := [("_law_ladder_here", 4)]) (N := N__law_ladders) (sc := defScope s__law_ladders) (by decide +kernel)) (tgu_name rfl rfl) rfl rfl (fun _ _ _ _ _ => pg_name (i := 4) g0.nd rfl (.inl rfl)) (fun _ _ _ _ _ => ptsx_nil) (fun _ _ _ _ _ => (px_slice (pb_var (i := 4) rfl (.inl rfl)) pp_none (pp_some px_int))))) pys_nil) (pys_one (py_retV (i := 2) rfl rfl (.inl rfl))))))
theorem ok__law_spoiled_ladder {f : Addr} {fd : FuncData} {q_NoGrain q_NoLadder q_CubeError q_NoValue q_NoPick q_NoRow q_NoSuch q_NoText q_TooMuch q_Book : Addr} (F : Fun K "_law_spoiled_ladder" "_law_spoiled_ladder" s__law_spoiled_ladder f fd) (T : Txt K mg q_NoGrain q_NoLadder q_CubeError q_NoValue q_NoPick q_NoRow q_NoSuch q_NoText q_TooMuch q_Book) : FnOk P w K mg base (L2N.CX P w) 1 f fd ["_law_ladder_here", "_law_cell_here"] (spM ⟨K, P, w, mg⟩ mg [true, true] false g__law_spoiled_ladder) :=
  fn_ok (Ωl := []) (Ω' := []) F sc__law_spoiled_ladder [true, true] false m__law_spoiled_ladder rfl fun cdv A outer s H E g0 =>
    (pys_cons (py_set (Ω' := []) (i := 2) g0 rfl rfl rfl (.inl rfl) (px_op op_modN nox_mod rb_mod (pb_var (i := 1) rfl (.inl rfl)) (PX.b px_int))) (pys_cons (py_set (Ω' := []) (i := 3) g0 rfl rfl rfl (.inr rfl) (px_ix g0 (fun _ _ => rfl) (pb_var (i := 0) rfl (.inl rfl)) (PX.b (px_op op_modN nox_mod rb_mod (PX.b (px_op or_fdiv nox_fdiv rb_fdiv (pb_var (i := 1) rfl (.inl rfl)) (PX.b px_int))) (PX.b (px_bi cr_lenA nox_len rc_len rfl T.n_len PySem.boot_len (pak_b (pb_var (i := 0) rfl (.inl rfl)) pak_nil))))))) (pys_cons (py_set (Ω' := []) (i := 4) g0 rfl rfl rfl (.inl rfl) (px_op or_add nox_add rb_add (PX.b (px_op op_pow nox_pow rb_pow (PX.b px_int) (PX.b px_int))) (PX.b (px_op op_modN nox_mod rb_mod (PX.b (px_op or_fdiv nox_fdiv rb_fdiv (pb_var (i := 1) rfl (.inl rfl)) (PX.b px_int))) (PX.b px_int))))) (pys_cons (py_if (Ω' := []) rfl (ptx_cmp (or_lt g0.u64) (nomark _) nox_lt rb_lt (pb_var (i := 2) rfl (.inl rfl)) (PX.b px_int)) (pys_one (py_ret rfl (px_ix g0 (fun _ _ => rfl) (PX.b (PO.x (po_lst (paf_cons (px_ty call_tuple_of nox_tup rc_tup rfl T.n_tuple (by decide +kernel) (pak_b (pb_var (i := 0) rfl (.inl rfl)) pak_nil)) (paf_cons (PO.x (po_lst paf_nil)) (paf_cons px_non (paf_cons (px_var (i := 3) rfl (.inr (.inl rfl)) rfl rfl) paf_nil))))))) (pb_var (i := 2) rfl (.inl rfl))))) pys_nil) (pys_cons (py_if (Ω' := []) rfl (ptx_cmp (op_eqD g0.u64) (nomark _) nox_eq rb_eq (pb_var (i := 2) rfl (.inl rfl)) (PX.b px_int)) (pys_one (py_ret rfl (px_op or_add nox_add rb_add (pb_var (i := 0) rfl (.inl rfl)) (PX.b (PO.x (po_lst (paf_cons (px_var (i := 3) rfl (.inr (.inl rfl)) rfl rfl) paf_nil))))))) pys_nil) (pys_cons (py_if (Ω' := []) rfl (ptx_cmp (op_eqD g0.u64) (nomark _) nox_eq rb_eq (pb_var (i := 2) rfl (.inl rfl)) (PX.b px_int)) (pys_one (py_ret rfl (px_op or_add nox_add rb_add (pb_var (i := 0) rfl (.inl rfl)) (PX.b (PO.x (po_lst (paf_cons (px_op or_add nox_add rb_add (PX.b (PO.x (po_lst (paf_cons (px_var (i := 4) rfl (.inl rfl) rfl rfl) paf_nil)))) (PX.b (PO.x (po_ty call_list_of nox_lst rc_lst rfl T.n_list (by decide +kernel) (pak_b (PX.b (px_slice (pb_var (i := 3) rfl (.inr (.inl rfl))) (pp_some px_int) pp_none)) pak_nil))))) paf_nil))))))) pys_nil) (pys_cons (py_if (Ω' := []) rfl (ptx_cmp (op_eqD g0.u64) (nomark _) nox_eq rb_eq (pb_var (i := 2) rfl (.inl rfl)) (PX.b px_int)) (pys_one (py_ret rfl (px_op or_add nox_add rb_add (pb_var (i := 0) rfl (.inl rfl)) (PX.b (PO.x (po_lst (paf_cons (px_op or_add nox_add rb_add (PX.b (px_tup (paf_cons (px_var (i := 4) rfl (.inl rfl) rfl rfl) paf_nil))) (pb_var (i := 3) rfl (.inr (.inl rfl)))) paf_nil))))))) pys_nil) (pys_cons (py_if (Ω' := []) rfl (ptx_cmp (or_lt g0.u64) (nomark _) nox_lt rb_lt (pb_var (i := 2) rfl (.inl rfl)) (PX.b px_int)) (pys_one (py_ret rfl (px_op or_add nox_add rb_add (pb_var (i := 0) rfl (.inl rfl)) (PX.b (PO.x (po_lst (paf_cons (px_op or_add nox_add rb_add (PX.b (px_tup (paf_cons (px_ix g0 (fun _ _ => rfl) (PX.b (PO.x (po_lst (paf_cons px_bl (paf_cons px_non (paf_cons px_str paf_nil)))))) (PX.b (px_op op_sub nox_sub rb_sub (pb_var (i := 2) rfl (.inl rfl)) (PX.b px_int)))) paf_nil))) (PX.b (px_slice (pb_var (i := 3) rfl (.inr (.inl rfl))) (pp_some px_int) pp_none))) paf_nil))))))) pys_nil) (pys_cons (py_if (Ω' := []) rfl (ptx_w (pwx_and (ptx_cmp (op_eqD g0.u64) (nomark _) nox_eq rb_eq (pb_var (i := 2) rfl (.inl rfl)) (PX.b px_int)) (pwx_and1 (ptx_cmp op_gt (nomark _) nox_gt rb_gt (PX.b (px_bi cr_lenA nox_len rc_len rfl T.n_len PySem.boot_len (pak_b (pb_var (i := 3) rfl (.inr (.inl rfl))) pak_nil))) (PX.b px_int))))) (pys_one (py_ret rfl (px_op or_add nox_add rb_add (pb_var (i := 0) rfl (.inl rfl)) (PX.b (PO.x (po_lst (paf_cons (px_op or_add nox_add rb_add (PX.b (px_op or_add nox_add rb_add (PX.b (px_tup (paf_cons (px_var (i := 4) rfl (.inl rfl) rfl rfl) paf_nil))) (PX.b (px_slice (pb_var (i := 3) rfl (.inr (.inl rfl))) (pp_some px_int) (pp_some (px_neg px_int)))))) (PX.b (px_tup (paf_cons (px_op op_pow nox_pow rb_pow (PX.b px_int) (PX.b px_int)) paf_nil)))) paf_nil))))))) pys_nil) (pys_cons (py_set (Ω' := []) (i := 5) g0 rfl rfl rfl (.inl rfl) (px_op op_sub nox_sub rb_sub (PX.b px_int) (PX.b (px_bi cr_lenA nox_len rc_len rfl T.n_len PySem.boot_len (pak_b (pb_var (i := 0) rfl (.inl rfl)) pak_nil))))) (pys_one (py_ret rfl (px_op or_add nox_add rb_add (pb_var (i := 0) rfl (.inl rfl)) (PX.b (PO.x (po_lc (own := [("_law_k", 6)]) g0 (PIs.c (pis_range1 rfl T.n_range (paf_cons (px_var (i := 5) rfl (.inl rfl) rfl rfl) paf_nil))) (blkOk_by (own := [("_law_k", 6)]) (N := N__law_spoiled_ladder) (sc := defScope s__law_spoiled_ladder) (by decide +kernel)) (tgu_name rfl rfl) rfl rfl (fun _ _ _ _ _ => pg_name (i := 6) g0.nd rfl (.inl rfl)) (fun _ _ _ _ _ => ptsx_nil) (fun _ _ _ _ _ => (px_op or_add nox_add rb_add (PX.b (px_tup (paf_cons (px_op or_add nox_add rb_add (PX.b (px_op op_pow nox_pow rb_pow (PX.b px_int) (PX.b px_int))) (pb_var (i := 6) rfl (.inl rfl))) paf_nil))) (PX.b (px_slice (pb_var (i := 3) rfl (.inr (.inl rfl))) (pp_some px_int) pp_none))))))))))))))))))))
theorem ok__law_spoiled {f : Addr} {fd : FuncData} {q_NoGrain q_NoLadder q_CubeError q_NoValue q_NoPick q_NoRow q_NoSuch q_NoText q_TooMuch q_Book : Addr} (F : Fun K "_law_spoiled" "_law_spoiled" s__law_spoiled f fd) (T : Txt K mg q_NoGrain q_NoLadder q_CubeError q_NoValue q_NoPick q_NoRow q_NoSuch q_NoText q_TooMuch q_Book) {f__law_spoiled_ladder : Addr} {fd__law_spoiled_ladder : FuncData} (c__law_spoiled_ladder : DefOk P w K mg base "_law_spoiled_ladder" f__law_spoiled_ladder fd__law_spoiled_ladder ["_law_ladder_here", "_law_cell_here"] [true, true] false g__law_spoiled_ladder 1) : FnOk P w K mg base (L2N.CX P w) 2 f fd ["_law_ladders_here", "_law_cell_here"] (spM ⟨K, P, w, mg⟩ mg [true, true] false g__law_spoiled) :=
  fn_ok (Ωl := []) (Ω' := []) F sc__law_spoiled [true, true] false m__law_spoiled rfl fun cdv A outer s H E g0 =>
    (pys_cons (py_set (Ω' := []) (i := 2) g0 rfl rfl rfl (.inl rfl) (px_op op_modN nox_mod rb_mod (pb_var (i := 1) rfl (.inl rfl)) (PX.b px_int))) (pys_cons (py_if (Ω' := []) rfl (ptx_cmp (op_eqD g0.u64) (nomark _) nox_eq rb_eq (pb_var (i := 2) rfl (.inl rfl)) (PX.b px_int)) (pys_one (py_ret rfl (PO.x (po_lst paf_nil)))) pys_nil) (pys_cons (py_if (Ω' := []) rfl (ptx_cmp (op_eqD g0.u64) (nomark _) nox_eq rb_eq (pb_var (i := 2) rfl (.inl rfl)) (PX.b px_int)) (pys_one (py_ret rfl (px_slice (PX.b (px_op op_repR nox_repR rb_repR (pb_var (i := 0) rfl (.inl rfl)) (PX.b px_int))) pp_none (pp_some px_int)))) pys_nil) (pys_cons (py_if (Ω' := []) rfl (ptx_cmp (op_eqD g0.u64) (nomark _) nox_eq rb_eq (pb_var (i := 2) rfl (.inl rfl)) (PX.b px_int)) (pys_one (py_ret rfl (px_ty call_tuple_of nox_tup rc_tup rfl T.n_tuple (by decide +kernel) (pak_b (pb_var (i := 0) rfl (.inl rfl)) pak_nil)))) pys_nil) (pys_cons (py_if (Ω' := []) rfl (ptx_cmp (op_eqD g0.u64) (nomark _) nox_eq rb_eq (pb_var (i := 2) rfl (.inl rfl)) (PX.b px_int)) (pys_one (py_ret rfl (px_ix g0 (fun _ _ => rfl) (pb_var (i := 0) rfl (.inl rfl)) (PX.b px_int)))) pys_nil) (pys_cons (py_if (Ω' := []) rfl (ptx_cmp (or_lt g0.u64) (nomark _) nox_lt rb_lt (pb_var (i := 2) rfl (.inl rfl)) (PX.b px_int)) (pys_one (py_ret rfl (px_ix g0 (fun _ _ => rfl) (PX.b (PO.x (po_lst (paf_cons px_non (paf_cons (px_op op_modN nox_mod rb_mod (PX.b (px_op or_fdiv nox_fdiv rb_fdiv (pb_var (i := 1) rfl (.inl rfl)) (PX.b px_int))) (PX.b (px_op op_pow nox_pow rb_pow (PX.b px_int) (PX.b px_int)))) (paf_cons px_str paf_nil)))))) (PX.b (px_op op_sub nox_sub rb_sub (pb_var (i := 2) rfl (.inl rfl)) (PX.b px_int)))))) pys_nil) (pys_cons (py_set (Ω' := []) (i := 3) g0 rfl rfl rfl (.inl rfl) (px_op op_modN nox_mod rb_mod (PX.b (px_op or_fdiv nox_fdiv rb_fdiv (pb_var (i := 1) rfl (.inl rfl)) (PX.b px_int))) (PX.b (px_bi cr_lenA nox_len rc_len rfl T.n_len PySem.boot_len (pak_b (pb_var (i := 0) rfl (.inl rfl)) pak_nil))))) (pys_one (py_ret rfl (px_op or_add nox_add rb_add (PX.b (px_op or_add nox_add rb_add (PX.b (px_slice (pb_var (i := 0) rfl (.inl rfl)) pp_none (pp_some (px_var (i := 3) rfl (.inl rfl) rfl rfl)))) (PX.b (PO.x (po_lst (paf_cons (px_c g0 c__law_spoiled_ladder rfl rfl (pak_b (PX.b (px_ix g0 (fun _ _ => rfl) (pb_var (i := 0) rfl (.inl rfl)) (pb_var (i := 3) rfl (.inl rfl)))) (pak_b (PX.b (px_op or_fdiv nox_fdiv rb_fdiv (pb_var (i := 1) rfl (.inl rfl)) (PX.b px_int))) pak_nil))) paf_nil)))))) (PX.b (px_slice (pb_var (i := 0) rfl (.inl rfl)) (pp_some (px_op or_add nox_add rb_add (pb_var (i := 3) rfl (.inl rfl)) (PX.b px_int))) pp_none))))))))))))
end
abbrev s_Book___init__ : Stmt := inClass (top 36) 0
abbrev N_Book___init__ : List Str := ["self", "ladders", "ladder"]
theorem sc_Book___init__ : FnScope N_Book___init__ ["self", "ladders"] (defScope s_Book___init__) := ⟨rfl, rfl, rfl, by decide +kernel, rfl, by decide +kernel, by decide +kernel⟩
abbrev s__law_outcome : Stmt := top 51
abbrev N__law_outcome : List Str := ["_law_thing", "_law_book", "e", "_law_kinds"]
theorem sc__law_outcome : FnScope N__law_outcome ["_law_thing"] (defScope s__law_outcome) := ⟨rfl, rfl, rfl, by decide +kernel, rfl, by decide +kernel, by decide +kernel⟩
abbrev s_law : Stmt := top 52
abbrev N_law : List Str := ["_law_script", "_law_ladders_here", "_law_thing", "_law_good", "_law_kinds", "_law_under", "_law_book", "_law_low", "_law_ladder_here", "_law_k"]
theorem sc_law : FnScope N_law ["_law_script"] (defScope s_law) := ⟨rfl, rfl, rfl, by decide +kernel, rfl, by decide +kernel, by decide +kernel⟩
def h_i1 : MV.Env → R Bool := (bOr (bNot (xT (x1 (isiF "list") (xVar 1)))) (bNot (xT (x3 leD leD (xC (.int 1)) (xCall lenF (aCons (xVar 1) aNil)) (xC (.int 4))))))
def e_Book___init___3_i2 : MV.Env → R D := (xCall g_is_ladder (aCons (xVar 2) aNil))
def h_i2 : MV.Env → R Bool := (bNot (xT (xCall allF (aCons (xLc [2] (xSeq (xVar 1)) (bName 2) tYesX e_Book___init___3_i2) aNil))))
def h_l1 : MV.Env → R D := (xCall g__law_ladders (aCons (xVar 0) aNil))
def h_l3 : MV.Env → R D := (x2 eqD (x2 modD (xCall g__law_cell_at (aCons (xVar 0) (aCons (xC (.int 5)) aNil))) (xC (.int 4))) (xC (.int 0)))
def h_l4 : MV.Env → R D := (xCall g__law_spoiled (aCons (xVar 2) (aCons (xCall g__law_cell_at (aCons (xVar 0) (aCons (xC (.int 6)) aNil))) aNil)))
def e_law_8_l6 : MV.Env → R D := (x2 eqD (xVar 9) (xC (.int 0)))
def h_l6 : MV.Env → R D := (xAnd (xVar 5) (x2 eqD (xVar 4) (xLc [9] (xRng rng1 (aCons (xC (.int 8)) aNil)) (bName 9) tYesX e_law_8_l6)))
def e_law_13_l10 : MV.Env → R D := (xC (.int 0))
def h_l10 : MV.Env → R D := (xCall tupF (aCons (xLc [8] (xSeq (xVar 1)) (bName 8) tYesX e_law_13_l10) aNil))
def h_l3t : MV.Env → R Bool := (bNot (xT (xVar 3)))
def h_l5t : MV.Env → R Bool := (bNot (xT (xVar 3)))
def h_l6t : MV.Env → R Bool := (bOr (xT (x2 neD (xVar 4) (xLst aNil))) (bOr (xT (x2 neD (xVar 2) (xVar 1))) (xT (x2 neD (xMeth0 "Book" "ladders" g_Book_ladders (xVar 6)) (xVar 1)))))
def e_law_13_t9 : MV.Env → R D := (xC (.int 0))
def t_law_14_t9 : YF := (yRet (xAnd (x2 eqD (xMeth0 "Book" "ladders" g_Book_ladders (xVar 6)) (xVar 1)) (xAnd (x2 eqD (xMeth0 "Book" "rows" g_Book_rows (xVar 6)) (xLst aNil)) (xAnd (x2 eqD (xMeth0 "Book" "kept" g_Book_kept (xVar 6)) (xLst (aCons (xVar 7) aNil))) (x2 eqD (xMeth "Book" "table" g_Book_table (xVar 6) (aCons (xVar 7) aNil)) (xLst aNil))))))
def h_t9 : YF := (ySeq (ySet 7 (xCall tupF (aCons (xLc [8] (xSeq (xVar 1)) (bName 8) tYesX e_law_13_t9) aNil))) t_law_14_t9)
theorem PTx.use {X : Cx} {W : WX} {B Ω : List Nat} {e : Expr} {g : MV.Env → R Bool} (h : PTx X W B Ω e g) : PT X e (tT X.fr X.mg W B Ω g) := h
theorem PX.use {X : Cx} {W : WX} {B Ω : List Nat} {e : Expr} {g : MV.Env → R D} (h : PX X W B Ω e g) : PE X e (tX X.fr X.mg W B Ω g) := h
/-! ### a book's attributes -/
theorem nAS : ¬ (("axes" : Str) = "sums") := by decide +kernel
theorem nAM : ¬ (("axes" : Str) = "amounts") := by decide +kernel
theorem nMS : ¬ (("amounts" : Str) = "sums") := by decide +kernel
theorem putF_len (f : Str) (v : V) : ∀ fs : List (Str × V), (putF f v fs).length ≤ fs.length + 1
  | [] => Nat.le_refl _
  | (g, x) :: r => by
    unfold putF
    split
    · exact Nat.le_succ _
    · exact Nat.succ_le_succ (putF_len f v r)
theorem zeros_kyb (n : Nat) : dKind [] (.tuple (List.replicate n (.int 0))) = true := by
  simp [dKind, kyb, leafy, isTupD]
def bf (A a2 a3 : Addr) : List (Str × V) := putF "sums" (.ref a3) (putF "amounts" (.ref a2) (putF "axes" (.ref A) []))
theorem bf_ax (A a2 a3 : Addr) : (bf A a2 a3).lookup ("axes" : Str) = some (.ref A) := by
  unfold bf
  rw [lookup_putF, if_neg nAS, lookup_putF, if_neg nAM, lookup_putF, if_pos rfl]
theorem bf_am (A a2 a3 : Addr) : (bf A a2 a3).lookup ("amounts" : Str) = some (.ref a2) := by
  unfold bf
  rw [lookup_putF, if_neg nMS, lookup_putF, if_pos rfl]
theorem bf_su (A a2 a3 : Addr) : (bf A a2 a3).lookup ("sums" : Str) = some (.ref a3) := by
  unfold bf
  rw [lookup_putF, if_pos rfl]
theorem bf_no (A a2 a3 : Addr) {m : Str} (h1 : ¬ m = "sums") (h2 : ¬ m = "amounts") (h3 : ¬ m = "axes") : (bf A a2 a3).lookup m = none := by
  unfold bf
  rw [lookup_putF, if_neg h1, lookup_putF, if_neg h2, lookup_putF, if_neg h3]
  all_goals rfl
/-- lists of data, one by one -/
def RpLs (F : Fr) (O : List Addr) (H : Hp) : List (List V) → List (List D) → Prop
  | [], [] => True
  | xs :: xss, l :: L => RpAll F O H xs l ∧ RpLs F O H xss L
  | _, _ => False
theorem SqLs.same {K : PySem.W.Frag} {H H' : Hp} {vs : List V} {xss : List (List V)} (s : Same H H') (h : SqLs K H vs xss) : SqLs K H' vs xss := by
  induction h with
  | nil => exact .nil
  | cons h _ ih => exact .cons (s.seq h) ih
theorem RpLs.same {F : Fr} {O : List Addr} {H H' : Hp} (s : Same H H') : ∀ {xss : List (List V)} {L : List (List D)}, RpLs F O H xss L → RpLs F O H' xss L
  | [], [], _ => trivial
  | _ :: _, _ :: _, h => ⟨h.1.same s, RpLs.same s h.2⟩
  | [], _ :: _, h => h.elim
  | _ :: _, [], h => h.elim
theorem RpLs.sub {F : Fr} {O O' : List Addr} {H : Hp} (g : ∀ a ∈ O', a ∈ O) : ∀ {xss : List (List V)} {L : List (List D)}, RpLs F O H xss L → RpLs F O' H xss L
  | [], [], _ => trivial
  | _ :: _, _ :: _, h => ⟨h.1.sub g, RpLs.sub g h.2⟩
  | [], _ :: _, h => h.elim
  | _ :: _, [], h => h.elim
theorem RpLs.ge {F : Fr} {O : List Addr} {H H' : Hp} (g : Ge O H H') : ∀ {xss : List (List V)} {L : List (List D)}, RpLs F O H xss L → RpLs F O H' xss L
  | [], [], _ => trivial
  | _ :: _, _ :: _, h => ⟨h.1.ge g, RpLs.ge g h.2⟩
  | [], _ :: _, h => h.elim
  | _ :: _, [], h => h.elim
theorem RpLs.len {F : Fr} {O : List Addr} {H : Hp} : ∀ {xss : List (List V)} {L : List (List D)}, RpLs F O H xss L → xss.length = L.length
  | [], [], _ => rfl
  | _ :: _, _ :: _, h => by simp [RpLs.len h.2]
  | [], _ :: _, h => h.elim
  | _ :: _, [], h => h.elim
theorem Lss.mem {H : Hp} {rs : List Addr} {xss : List (List V)} (h : Lss H rs xss) : ∀ r ∈ rs, ∃ xs, H r = some (.lst xs) := by
  induction h with
  | nil => simp
  | cons h _ ih =>
    intro r hr
    rcases List.mem_cons.mp hr with rfl | hr
    · exact ⟨_, h⟩
    · exact ih r hr
theorem Lss.keep {H H' : Hp} {rs : List Addr} {xss : List (List V)} (k : ∀ r ∈ rs, ∀ o, H r = some o → H' r = some o) (h : Lss H rs xss) : Lss H' rs xss := by
  induction h with
  | nil => exact .nil
  | cons h _ ih => exact .cons (k _ List.mem_cons_self _ h) (ih fun r hr => k r (List.mem_cons_of_mem _ hr))
theorem zeros_of {F : Fr} {O : List Addr} {H : Hp} : ∀ {n : Nat} {xs : List V}, RpAll F O H xs (List.replicate n (.int 0)) → xs = List.replicate n (.int 0)
  | 0, _, h => by cases h; rfl
  | n + 1, _, h => by
    cases h with
    | cons h1 h2 => cases h1; rw [List.replicate_succ, zeros_of h2]
theorem lads_of {F : Fr} {O : List Addr} {H : Hp} : ∀ {vs : List V} {L : List (List D)}, RpAll F O H vs (L.map .list) → ∃ xss, SqLs F.K H vs xss ∧ RpLs F O H xss L
  | _, [], h => by cases h; exact ⟨[], .nil, trivial⟩
  | _, l :: L, h => by
    cases h with
    | cons h1 h2 =>
      obtain ⟨xss, q1, q2⟩ := lads_of h2
      cases h1 with
      | lst hs ha => exact ⟨_ :: xss, .cons (.inl hs.2) q1, ha, q2⟩
theorem lads_back {F : Fr} {O : List Addr} {H : Hp} : ∀ {rs : List Addr} {xss : List (List V)} {L : List (List D)}, (∀ r ∈ rs, r ∉ O) → Lss H rs xss → RpLs F O H xss L → RpAll F O H (rs.map V.ref) (L.map .list)
  | [], _, [], _, _, _ => .nil
  | r :: rs, _, l :: L, hO, h, k => by
    cases h with
    | cons h1 h2 => exact .cons (.lst ⟨hO r List.mem_cons_self, .inl h1⟩ k.1) (lads_back (fun x hx => hO x (List.mem_cons_of_mem _ hx)) h2 k.2)
  | [], _, _ :: _, _, h, k => by cases h; exact k.elim
  | _ :: _, _, [], _, h, k => by cases h; exact k.elim
/-- a book that is new: it has no rows, the finest table alone -/
structure BookAt (F : Fr) (C : Addr) (H' : Hp) (y A : Addr) (rs : List Addr) (a2 a3 kt e3 : Addr) (xss : List (List V)) (n : Nat) : Prop where
  ob : ∃ dx, H' y = some (.ins C dx (bf A a2 a3))
  ax : H' A = some (.lst (rs.map .ref))
  ls : Lss H' rs xss
  am : H' a2 = some (dR F a2 [])
  su : H' a3 = some (dR F a3 [(.tuple (List.replicate n (.int 0)), .ref kt, .ref e3)])
  ky : H' kt = some (.tup (List.replicate n (.int 0)))
  tb : H' e3 = some (dR F e3 [])
def badI (d : D) : Prop := h_i1 [none, some d, none] = .ok true ∨ (h_i1 [none, some d, none] = .ok false ∧ h_i2 [none, some d, none] = .ok true)
def goodI (d : D) : Prop := h_i1 [none, some d, none] = .ok false ∧ h_i2 [none, some d, none] = .ok false
def spInit (F : Fr) (mg : Str → Option Value) (C : Addr) : Sp := fun vs H Q E => ∃ y dx v d, vs = [.ref y, v] ∧ H y = some (.ins C dx []) ∧ Rp F [y] H v d ∧
  ((badI d ∧ ∀ q H', mg "NoLadder" = some (.ref q) → Same H H' → E (.ref q) none H') ∨
   (∃ L, d = .list (L.map .list) ∧ goodI d ∧ L.length ≤ 100 ∧ g_finest [d] = .ok (.tuple (List.replicate L.length (.int 0))) ∧
     ∀ A rs a2 a3 kt e3 xss H', RpLs F [y] H xss L → BookAt F C H' y A rs a2 a3 kt e3 xss L.length → (∀ b ∈ [A, a2, a3, e3] ++ rs, H b = none) → rs.Nodup → (∀ b o, b ≠ y → H b = some o → H' b = some o) → Q .non H'))

section
variable {P : Program} {w : World} {K : PySem.W.Frag} {mg : Str → Option Value} {base : Heap} {q_NoGrain q_NoLadder q_CubeError q_NoValue q_NoPick q_NoRow q_NoSuch q_NoText q_TooMuch q_Book : Addr} (T : Txt K mg q_NoGrain q_NoLadder q_CubeError q_NoValue q_NoPick q_NoRow q_NoSuch q_NoText q_TooMuch q_Book)
variable {f_is_ladder : Addr} {fd_is_ladder : FuncData} (c_is_ladder : DefOk P w K mg base "is_ladder" f_is_ladder fd_is_ladder ["thing"] [true] false g_is_ladder 5)
variable {f_finest : Addr} {fd_finest : FuncData} (c_finest : DefOk P w K mg base "finest" f_finest fd_finest ["ladders"] [true] false g_finest 1)
variable {f_Book_ladders : Addr} {fd_Book_ladders : FuncData} (c_Book_ladders : MthOk P w K mg base "Book" "ladders" q_Book f_Book_ladders fd_Book_ladders ["self"] [] true g_Book_ladders 1)
variable {f_Book_rows : Addr} {fd_Book_rows : FuncData} (c_Book_rows : MthOk P w K mg base "Book" "rows" q_Book f_Book_rows fd_Book_rows ["self"] [] true g_Book_rows 7)
variable {f_Book_kept : Addr} {fd_Book_kept : FuncData} (c_Book_kept : MthOk P w K mg base "Book" "kept" q_Book f_Book_kept fd_Book_kept ["self"] [] true g_Book_kept 1)
variable {f_Book_table : Addr} {fd_Book_table : FuncData} (c_Book_table : MthOk P w K mg base "Book" "table" q_Book f_Book_table fd_Book_table ["self", "grain"] [true] true g_Book_table 7)
variable {f__law_cell_at : Addr} {fd__law_cell_at : FuncData} (c__law_cell_at : DefOk P w K mg base "_law_cell_at" f__law_cell_at fd__law_cell_at ["_law_script", "_law_k"] [true, true] false g__law_cell_at 1)
variable {f__law_ladders : Addr} {fd__law_ladders : FuncData} (c__law_ladders : DefOk P w K mg base "_law_ladders" f__law_ladders fd__law_ladders ["_law_script"] [true] true g__law_ladders 3)
variable {f__law_spoiled : Addr} {fd__law_spoiled : FuncData} (c__law_spoiled : DefOk P w K mg base "_law_spoiled" f__law_spoiled fd__law_spoiled ["_law_ladders_here", "_law_cell_here"] [true, true] false g__law_spoiled 2)
variable {f_Book___init__ : Addr} {fd_Book___init__ : FuncData} (hm_Book___init__ : HM K q_Book "__init__" "Book.__init__" s_Book___init__ f_Book___init__ fd_Book___init__ ["self", "ladders"])
variable {f__law_outcome : Addr} {fd__law_outcome : FuncData} (hd__law_outcome : HD K mg "_law_outcome" s__law_outcome f__law_outcome fd__law_outcome ["_law_thing"])
include T c_is_ladder c_finest c_Book_ladders c_Book_rows c_Book_kept c_Book_table c__law_cell_at c__law_ladders c__law_spoiled hm_Book___init__ hd__law_outcome
theorem ok_Book_init : FnOk P w K mg base (L2N.CX P w) 6 f_Book___init__ fd_Book___init__ ["self", "ladders"] (spInit ⟨K, P, w, mg⟩ mg q_Book) := by
  refine okXN hm_Book___init__.F sc_Book___init__ (fun vs H Q E ⟨y, dx, v, d, e, _⟩ => by rw [e]; rfl) fun cdv A outer s H vs Q E hr ⟨y, dx, v, d, e, hy, rv, h⟩ => ?_
  subst e
  have g0 : Gd (cxOf (L2N.CX P w) P w K mg base N_Book___init__ "Book.__init__" (defScope s_Book___init__) f_Book___init__ cdv A outer s H E) (WD E) 5 := ⟨L2N.takes_of rfl rfl rfl rfl, passes_of rfl, rfl, sc_Book___init__.nd, hr⟩
  refine ⟨_, pss_cons (ps_if (PTx.use (W := WD E) (B := []) (Ω := []) (g := h_i1) (ptx_w (pwx_or (ptx_not (ptx_val (px_isi rfl T.n_isinstance rfl T.n_list (by decide +kernel) rfl (pb_var (i := 1) rfl (.inl rfl))))) (pwx_or1 (ptx_not (ptx_chain op_le op_le nox_le rb_le nox_le rb_le (PX.b px_int) (PX.b (px_bi cr_lenA nox_len rc_len rfl T.n_len PySem.boot_len (pak_b (pb_var (i := 1) rfl (.inl rfl)) pak_nil))) (PX.b (px_gint rfl T.c_MOST_AXES)))))))) (pss_one (L2N.ps_raise g0.hc g0.tk (L2N.pmk_own PySem.F.excBase_ValueError T.E_NoLadder.xC T.E_NoLadder.gC T.E_NoLadder.kC (raises_own T.E_NoLadder.bC T.E_NoLadder.tC) rfl (by decide +kernel)))) pss_nil)
    (pss_cons (ps_if (PTx.use (W := WD E) (B := []) (Ω := []) (g := h_i2) (ptx_not (ptx_val (px_bi (cr_all g0.hc) nox_all rc_all rfl T.n_all (by decide +kernel) (pak_b (PX.b (PO.x (po_lc (own := [("ladder", 2)]) g0 (pic_b (pb_var (i := 1) rfl (.inl rfl))) (blkOk_by (own := [("ladder", 2)]) (N := N_Book___init__) (sc := defScope s_Book___init__) (by decide +kernel)) (tgu_name rfl rfl) rfl rfl (fun _ _ _ _ _ => pg_name (i := 2) g0.nd rfl (.inl rfl)) (fun _ _ _ _ _ => ptsx_nil) (fun _ _ _ _ _ => (px_c (g0.blk _ _ _ _ _) c_is_ladder rfl rfl (pak_b (pb_var (i := 2) rfl (.inl rfl)) pak_nil)))))) pak_nil))))) (pss_one (L2N.ps_raise g0.hc g0.tk (L2N.pmk_own PySem.F.excBase_ValueError T.E_NoLadder.xC T.E_NoLadder.gC T.E_NoLadder.kC (raises_own T.E_NoLadder.bC T.E_NoLadder.tC) rfl (by decide +kernel)))) pss_nil)
    (pss_cons (ps_fld (pv 0) (pe_dc (i := 2) (x := "ladder") g0.hc g0.nd rfl (pv 1) (fun σ H Q Q' ⟨v, e, q⟩ k => ⟨v, e, k _ _ q⟩) (blkOk_by (own := [("ladder", 2)]) (N := N_Book___init__) (sc := defScope s_Book___init__) (by decide +kernel)) (fun _ _ _ _ _ => pg_name (i := 2) g0.nd rfl (.inl rfl)) (fun _ _ _ _ _ => pe_callTy (T := "list") call_list_of rfl T.n_list (by decide +kernel) (pa_cons (pv 2 rfl (.inl rfl)) pa_nil))) rfl)
    (pss_cons (ps_fld (pv 0) pe_dnewE rfl)
    (pss_one (ps_fld (pv 0) (pe_dict1 g0.u64 (pe_callS c_finest.F (g0.hr.mono (by decide)) rfl c_finest.m c_finest.k c_finest.b (fun σ => L2N.passAt g0.tk σ) (pa_cons (pe_fld (pv 0) rfl) pa_nil)) pe_dnewE) rfl))))), ?_⟩
  have sn : ∀ {H' : Hp}, Same H H' → Stt ⟨K, P, w, mg⟩ H' [] [] [] [] H' (start N_Book___init__ [.ref y, v]) [none, some d, none] := fun {H'} s => snap rfl fun i d' e => by
    match i, e with
    | 0, e => cases e
    | 1, e => cases e; exact ⟨v, rfl, (rv.same s).sub (by simp)⟩
    | 2, e => cases e
    | n + 3, e => cases e
  refine ⟨H, [], [], [none, some d, none], sn Same.refl, ?_⟩
  rcases h with ⟨hb, h⟩ | ⟨L, rfl, hg, hl, hfin, h⟩
  · -- refused
    rcases hb with e1 | ⟨e1, e2⟩
    · rw [e1]
      intro b H1 s1 eb
      have eb : b = true := eb
      subst eb
      refine iteT ?_
      exact h _ H1 T.E_NoLadder.gC s1
    · rw [e1]
      intro b H1 s1 eb
      have eb : b = false := eb
      subst eb
      refine iteF ?_
      refine ⟨H1, [], [], [none, some d, none], sn s1, ?_⟩
      rw [e2]
      intro b H2 s2 eb
      have eb : b = true := eb
      subst eb
      refine iteT ?_
      exact h _ H2 T.E_NoLadder.gC (Same.tr s1 s2)
  · obtain ⟨e1, e2⟩ := hg
    rw [e1]
    intro b H1 s1 eb
    have eb : b = false := eb
    subst eb
    refine iteF ?_
    refine ⟨H1, [], [], [none, some (.list (L.map .list)), none], sn s1, ?_⟩
    rw [e2]
    intro b H2 s2 eb
    have eb : b = false := eb
    subst eb
    refine iteF ?_
    have s02 := Same.tr s1 s2
    -- self.axes = [list(ladder) for ladder in ladders]
    obtain ⟨dxy, hy2⟩ : ∃ dx, H2 y = some (.ins q_Book dx []) := ⟨dx, s02 _ _ hy⟩
    have naA : NoAttr K q_Book "axes" := T.C_Book.na _ (by simp)
    have naM : NoAttr K q_Book "amounts" := T.C_Book.na _ (by simp)
    have naS : NoAttr K q_Book "sums" := T.C_Book.na _ (by simp)
    refine ⟨by show 2 < 3; decide, v, rfl, ?_⟩
    cases rv with
    | lst hs ha =>
    obtain ⟨xss, q1, q2⟩ := lads_of ha
    have hlv := ha.length
    refine ⟨_, _, xss, rfl, .inl (Rd.same s02 hs.2), SqLs.same s02 q1, by rw [hlv, List.length_map]; omega, fun A rs H3 hA hrs nd s3 eA ls => ?_⟩
    have hAy : A ≠ y := fun z => by rw [z, hy2] at hA; cases hA
    have hry : ∀ r ∈ rs, r ≠ y := fun r hr z => by have := (hrs r hr).1; rw [z, hy2] at this; cases this
    have hy3 := s3 _ _ hy2
    refine ⟨.ref y, rfl, y, q_Book, dxy, [], rfl, hy3, T.C_Book.cl, naA, by show 0 < 1000; decide, ?_⟩
    -- self.amounts = {}
    intro a2 h2
    have h2y : a2 ≠ y := fun z => by rw [z, upd_same] at h2; cases h2
    have h23 : H3 a2 = none := by rwa [upd_ne h2y] at h2
    have h2A : a2 ≠ A := fun z => by rw [z, eA] at h23; cases h23
    refine ⟨.ref y, rfl, y, q_Book, dxy, _, rfl, by rw [upd_ne (Ne.symm h2y), upd_same], T.C_Book.cl, naM, by show 1 < 1000; decide, ?_⟩
    -- self.sums = {finest(self.axes): {}}
    intro a3 h3
    obtain ⟨H5, hH5⟩ : ∃ H5, H5 = upd (upd (upd H3 y (.ins q_Book dxy (putF "axes" (.ref A) []))) a2 (dR ⟨K, P, w, mg⟩ a2 [])) y (.ins q_Book dxy (putF "amounts" (.ref a2) (putF "axes" (.ref A) []))) := ⟨_, rfl⟩
    have k35 : ∀ b o, b ≠ y → H3 b = some o → H5 b = some o := fun b o hb e => by
      rw [hH5, upd_ne hb, upd_ne (fun z => by rw [z, h23] at e; cases e), upd_ne hb]; exact e
    have e52 : H5 a2 = some (dR ⟨K, P, w, mg⟩ a2 []) := by rw [hH5, upd_ne h2y, upd_same]
    have e5y : H5 y = some (.ins q_Book dxy (putF "amounts" (.ref a2) (putF "axes" (.ref A) []))) := by rw [hH5, upd_same]
    have h3 : H5 a3 = none := by rw [hH5]; exact h3
    have h3y : a3 ≠ y := fun z => by rw [z, e5y] at h3; cases h3
    obtain ⟨H6, hH6⟩ : ∃ H6, H6 = upd H5 a3 (dR ⟨K, P, w, mg⟩ a3 []) := ⟨_, rfl⟩
    have k56 : Same H5 H6 := by rw [hH6]; exact same_upd h3
    have e63 : H6 a3 = some (dR ⟨K, P, w, mg⟩ a3 []) := by rw [hH6, upd_same]
    refine ⟨.ref y, rfl, y, q_Book, dxy, _, .ref A, rfl, by have z := k56 _ _ e5y; rw [hH6, hH5] at z; exact z, T.C_Book.cl, naA, by rw [lookup_putF, if_neg nAM, lookup_putF, if_pos rfl], ?_⟩
    have q5 : RpLs ⟨K, P, w, mg⟩ [y] H5 xss L := ((q2.same s02).same s3).ge fun b o hb e => k35 b o (by simpa using hb) e
    have q6 : RpAll ⟨K, P, w, mg⟩ [] H6 (rs.map V.ref) (L.map .list) := lads_back (by simp) ((Lss.keep (fun r hr o e => k35 r o (hry r hr) e) ls).same k56) ((q5.same k56).sub (by simp))
    have main : spM ⟨K, P, w, mg⟩ mg [true] false g_finest [.ref A] H6 (fun kv H7 => ∀ e3, H7 e3 = none → ∃ O k, (upd H7 e3 (dR ⟨K, P, w, mg⟩ e3 [])) a3 = some (dR ⟨K, P, w, mg⟩ a3 []) ∧ dKind [] k = true ∧ Rs ⟨K, P, w, mg⟩ O (upd H7 e3 (dR ⟨K, P, w, mg⟩ e3 [])) (upd H7 e3 (dR ⟨K, P, w, mg⟩ e3 [])) kv k ∧ (fun y' H9 => ∃ y1, some (some (V.ref y)) = some (some y1) ∧ ∃ a C dx fs, y1 = .ref a ∧ H9 a = some (.ins C dx fs) ∧ Cls K C ∧ NoAttr K C "sums" ∧ fs.length < 1000 ∧ Q .non (upd H9 a (.ins C dx (putF "sums" y' fs)))) (.ref a3) (upd (upd H7 e3 (dR ⟨K, P, w, mg⟩ e3 [])) a3 (dR ⟨K, P, w, mg⟩ a3 [(k, kv, .ref e3)]))) E := by
      refine ⟨[], [.list (L.map .list)], by simp, ⟨.inl (.lst ⟨by simp, .inl (k56 _ _ (k35 A _ hAy eA))⟩ q6), trivial⟩, ?_⟩
      rw [hfin]
      intro kv H7 s7 rk e3 h37
      cases rk with
      | tup hk hx =>
      obtain rfl := zeros_of hx
      rename_i kt
      have kt7 := hk.2
      have e73 := s7 _ _ e63
      have n33 : a3 ≠ e3 := fun z => by rw [z] at e73; rw [e73] at h37; cases h37
      have s78 := same_upd (o := dR ⟨K, P, w, mg⟩ e3 []) h37
      refine ⟨[], .tuple (List.replicate L.length (.int 0)), s78 _ _ e73, zeros_kyb _, .inl (.tup ⟨by simp, s78 _ _ kt7⟩ (hx.same s78)), .ref y, rfl, y, q_Book, dxy, _, rfl, ?_, T.C_Book.cl, naS, Nat.lt_of_le_of_lt (Nat.le_trans (putF_len "amounts" (V.ref a2) (putF "axes" (V.ref A) [])) (Nat.succ_le_succ (putF_len "axes" (V.ref A) []))) (by show 2 < 1000; decide), ?_⟩
      · rw [upd_ne (Ne.symm h3y)]; exact s78 _ _ (s7 _ _ (k56 _ _ e5y))
      · have kp : ∀ b o, H6 b = some o → b ≠ y → b ≠ a3 → (upd (upd (upd H7 e3 (dR ⟨K, P, w, mg⟩ e3 [])) a3 (dR ⟨K, P, w, mg⟩ a3 [(.tuple (List.replicate L.length (.int 0)), .ref kt, .ref e3)])) y (.ins q_Book dxy (putF "sums" (.ref a3) (putF "amounts" (.ref a2) (putF "axes" (.ref A) []))))) b = some o := fun b o e h1 h2 => by
          rw [upd_ne h1, upd_ne h2, upd_ne (fun z => by have := s7 _ _ e; rw [z, h37] at this; cases this)]
          exact s7 _ _ e
        have n3 : ∀ b o, H5 b = some o → b ≠ a3 := fun b o e z => by rw [z, h3] at e; cases e
        have kp3 : ∀ b o, b ≠ y → H3 b = some o → (upd (upd (upd H7 e3 (dR ⟨K, P, w, mg⟩ e3 [])) a3 (dR ⟨K, P, w, mg⟩ a3 [(.tuple (List.replicate L.length (.int 0)), .ref kt, .ref e3)])) y (.ins q_Book dxy (putF "sums" (.ref a3) (putF "amounts" (.ref a2) (putF "axes" (.ref A) []))))) b = some o := fun b o hb e =>
          have e5 := k35 b o hb e
          kp b o (k56 _ _ e5) hb (n3 b o e5)
        have e3y : e3 ≠ y := fun z => by have := s7 _ _ (k56 _ _ e5y); rw [← z, h37] at this; cases this
        have kty : kt ≠ y := fun z => by have := s7 _ _ (k56 _ _ e5y); rw [← z, kt7] at this; cases this
        have kt3 : kt ≠ a3 := fun z => by rw [z, e73] at kt7; cases kt7
        refine h A rs a2 a3 kt e3 xss _ q2 ⟨⟨dxy, upd_same⟩, kp3 A _ hAy eA, Lss.keep (fun r hr o e => kp3 r o (hry r hr) e) ls, kp a2 _ (k56 _ _ e52) h2y (n3 a2 _ e52), ?_, ?_, ?_⟩ ?_ nd ?_
        · rw [upd_ne h3y, upd_same]
        · rw [upd_ne kty, upd_ne kt3]; exact s78 _ _ kt7
        · rw [upd_ne e3y, upd_ne (Ne.symm n33), upd_same]
        · intro b hb
          have back3 : H3 b = none → H b = none := fun e => free_back (Same.tr s02 s3) e
          have back2 : H2 b = none → H b = none := fun e => free_back s02 e
          have f5 : ∀ b, H5 b = none → H3 b = none ∨ b = y := fun b e => by
            by_cases hby : b = y
            · exact .inr hby
            · left
              cases q : H3 b with
              | none => rfl
              | some o => have := k35 b o hby q; rw [e] at this; cases this
          simp only [List.mem_append, List.mem_cons, List.not_mem_nil, or_false] at hb
          rcases hb with (rfl | rfl | rfl | rfl) | hb
          · exact back2 hA
          · exact back3 h23
          · rcases f5 _ h3 with e | e
            · exact back3 e
            · exact absurd e h3y
          · rcases f5 _ (free_back (Same.tr k56 s7) h37) with e | e
            · exact back3 e
            · exact absurd e e3y
          · exact back2 (hrs b hb).1
        · exact fun b o hb e => kp3 b o hb (s3 _ _ (s02 _ _ e))
    rw [hH6, hH5] at main
    exact main
end
/-! ### a new book, as data -/
def bkD (L : List (List D)) : D := .dict ((.bool true, .str "Book") :: [(.str "axes", .list (L.map .list)), (.str "amounts", .dict []), (.str "sums", .dict [(.tuple (List.replicate L.length (.int 0)), .dict [])])])
theorem bf_eq (A a2 a3 : Addr) : bf A a2 a3 = [(("axes" : Str), V.ref A), (("amounts" : Str), V.ref a2), (("sums" : Str), V.ref a3)] := by
  have n1 : ¬ (("axes" : Str) = "amounts") := nAM
  have n2 : ¬ (("axes" : Str) = "sums") := nAS
  have n3 : ¬ (("amounts" : Str) = "sums") := nMS
  unfold bf
  simp only [putF, if_neg n1, if_neg n2, if_neg n3]
theorem BookAt.rs {F : Fr} {O : List Addr} {C : Addr} {H : Hp} {y A : Addr} {rs : List Addr} {a2 a3 kt e3 : Addr} {xss : List (List V)} {L : List (List D)} (h : BookAt F C H y A rs a2 a3 kt e3 xss L.length) (hC : F.mg "Book" = some (.ref C)) (hk : kt ∉ O) (he : e3 ∉ O) (hr : ∀ b ∈ rs, b ∉ O) (hx : RpLs F O H xss L) : Rs F O H H (.ref y) (bkD L) := by
  obtain ⟨dx, e⟩ := h.ob
  rw [bf_eq] at e
  refine .inr ⟨y, rfl, .inr ⟨_, _, C, dx, _, rfl, e, hC, ?_⟩⟩
  refine .lst (.inl h.ax) (lads_back hr h.ls hx) (.dct h.am .nil (.dct h.su (.cons ?_ (.tup ⟨hk, h.ky⟩ ?_) (.dct he h.tb .nil) .nil) .nil))
  · simp [kyb]
  · clear hx h e hr
    induction L.length with
    | zero => exact .nil
    | succ n ih => rw [List.replicate_succ, List.replicate_succ]; exact .cons (.int 0) ih
theorem BookAt.same {F : Fr} {C : Addr} {H H' : Hp} {y A : Addr} {rs : List Addr} {a2 a3 kt e3 : Addr} {xss : List (List V)} {n : Nat} (s : Same H H') (h : BookAt F C H y A rs a2 a3 kt e3 xss n) : BookAt F C H' y A rs a2 a3 kt e3 xss n :=
  ⟨h.ob.imp fun _ e => s _ _ e, s _ _ h.ax, h.ls.same s, s _ _ h.am, s _ _ h.su, s _ _ h.ky, s _ _ h.tb⟩
def spOut (F : Fr) (C : Addr) : Sp := fun vs H Q E => ∃ v d, vs = [v] ∧ Rp F [] H v d ∧
  ((badI d ∧ ∀ r H', Same H H' → Rp F [] H' r (.tuple [(.list ([true, false, false, false, false, false, false, false].map .bool)), (.bool true), .none]) → Q r H') ∨
   (∃ L, d = .list (L.map .list) ∧ goodI d ∧ L.length ≤ 100 ∧ g_finest [d] = .ok (.tuple (List.replicate L.length (.int 0))) ∧
     ∀ r e1 y A rs a2 a3 kt e3 xss H', Same H H' → H' r = some (.tup [V.ref e1, .bl true, V.ref y]) → H' e1 = some (.lst []) → BookAt F C H' y A rs a2 a3 kt e3 xss L.length → RpLs F [] H' xss L → (∀ b ∈ [y, A, a2, a3, e3] ++ rs, H b = none) → rs.Nodup → Q (V.ref r) H'))

section
variable {P : Program} {w : World} {K : PySem.W.Frag} {mg : Str → Option Value} {base : Heap} {q_NoGrain q_NoLadder q_CubeError q_NoValue q_NoPick q_NoRow q_NoSuch q_NoText q_TooMuch q_Book : Addr} (T : Txt K mg q_NoGrain q_NoLadder q_CubeError q_NoValue q_NoPick q_NoRow q_NoSuch q_NoText q_TooMuch q_Book)
variable {f_is_ladder : Addr} {fd_is_ladder : FuncData} (c_is_ladder : DefOk P w K mg base "is_ladder" f_is_ladder fd_is_ladder ["thing"] [true] false g_is_ladder 5)
variable {f_finest : Addr} {fd_finest : FuncData} (c_finest : DefOk P w K mg base "finest" f_finest fd_finest ["ladders"] [true] false g_finest 1)
variable {f_Book_ladders : Addr} {fd_Book_ladders : FuncData} (c_Book_ladders : MthOk P w K mg base "Book" "ladders" q_Book f_Book_ladders fd_Book_ladders ["self"] [] true g_Book_ladders 1)
variable {f_Book_rows : Addr} {fd_Book_rows : FuncData} (c_Book_rows : MthOk P w K mg base "Book" "rows" q_Book f_Book_rows fd_Book_rows ["self"] [] true g_Book_rows 7)
variable {f_Book_kept : Addr} {fd_Book_kept : FuncData} (c_Book_kept : MthOk P w K mg base "Book" "kept" q_Book f_Book_kept fd_Book_kept ["self"] [] true g_Book_kept 1)
variable {f_Book_table : Addr} {fd_Book_table : FuncData} (c_Book_table : MthOk P w K mg base "Book" "table" q_Book f_Book_table fd_Book_table ["self", "grain"] [true] true g_Book_table 7)
variable {f__law_cell_at : Addr} {fd__law_cell_at : FuncData} (c__law_cell_at : DefOk P w K mg base "_law_cell_at" f__law_cell_at fd__law_cell_at ["_law_script", "_law_k"] [true, true] false g__law_cell_at 1)
variable {f__law_ladders : Addr} {fd__law_ladders : FuncData} (c__law_ladders : DefOk P w K mg base "_law_ladders" f__law_ladders fd__law_ladders ["_law_script"] [true] true g__law_ladders 3)
variable {f__law_spoiled : Addr} {fd__law_spoiled : FuncData} (c__law_spoiled : DefOk P w K mg base "_law_spoiled" f__law_spoiled fd__law_spoiled ["_law_ladders_here", "_law_cell_here"] [true, true] false g__law_spoiled 2)
variable {f_Book___init__ : Addr} {fd_Book___init__ : FuncData} (hm_Book___init__ : HM K q_Book "__init__" "Book.__init__" s_Book___init__ f_Book___init__ fd_Book___init__ ["self", "ladders"])
variable {f__law_outcome : Addr} {fd__law_outcome : FuncData} (hd__law_outcome : HD K mg "_law_outcome" s__law_outcome f__law_outcome fd__law_outcome ["_law_thing"])
include T c_is_ladder c_finest c_Book_ladders c_Book_rows c_Book_kept c_Book_table c__law_cell_at c__law_ladders c__law_spoiled hm_Book___init__ hd__law_outcome
theorem ok_outcome : FnOk P w K mg base (L2N.CX P w) 8 f__law_outcome fd__law_outcome ["_law_thing"] (spOut ⟨K, P, w, mg⟩ q_Book) := by
  refine okXN hd__law_outcome.F sc__law_outcome (fun vs H Q E ⟨v, d, e, _⟩ => by rw [e]; rfl) fun cdv A outer s H vs Q E hr ⟨v, d, e, rv, h⟩ => ?_
  subst e
  have g0 : Gd (cxOf (L2N.CX P w) P w K mg base N__law_outcome "_law_outcome" (defScope s__law_outcome) f__law_outcome cdv A outer s H E) (WD E) 7 := ⟨L2N.takes_of rfl rfl rfl rfl, passes_of rfl, rfl, sc__law_outcome.nd, hr⟩
  have M : Mk K q_Book f_Book___init__ := ⟨T.C_Book.makes, hm_Book___init__.mt.at_, hm_Book___init__.mt.fn, T.C_Book.kp⟩
  have init := ok_Book_init (base := base) T c_is_ladder c_finest c_Book_ladders c_Book_rows c_Book_kept c_Book_table c__law_cell_at c__law_ladders c__law_spoiled hm_Book___init__ hd__law_outcome
  refine ⟨_, pss_cons (ps_set (i := 1) g0.nd rfl (.inl rfl) pe_non)
    (pss_cons (L2N.ps_try_as (i := 2) (c := .ref q_CubeError) (Wout := WD E) (tb := fun W' => tAsg (tMakeS q_Book (spInit ⟨K, P, w, mg⟩ mg q_Book) (WE W') (tCons (tVar 0) tNil)) (gName 1)) (ts := fun a cls d Dn σ H => cls = .ref q_NoLadder ∧ d = none ∧ ExcAt 2 a σ H ∧ ∀ v H', Same H H' → New H H' v (.tuple [(.list ([true, false, false, false, false, false, false, false].map .bool)), (.bool true), .none]) → Dn.rt v H') rfl rfl g0.nd rfl rfl ⟨rfl, rfl, .inl T.g_CubeError⟩ g0.tk
      (fun W' pn xe tk hp => pss_one (ps_set (i := 1) g0.nd rfl (.inl rfl) (pe_makeS M init g0.hr rfl T.C_Book.g hm_Book___init__.b (fun σ => L2N.passAt tk σ) (pa_cons (pe_var (i := 0) rfl (.inl rfl)) pa_nil))))
      (fun a oe cls d pn hz hv => ⟨fun pins s σ H Dn I ⟨ec, ed, h⟩ => by
        subst ec
        subst ed
        refine PSs.run (t := fun Dn σ H => ExcAt 2 a σ H ∧ ∀ v H', Same H H' → New H H' v (.tuple [(.list ([true, false, false, false, false, false, false, false].map .bool)), (.bool true), .none]) → Dn.rt v H') ?_ pins s σ H Dn I h
        show PSn _ (ExcAt 2 a) _ _
        exact (psn_set (i := 2) (o := 3) g0.nd rfl (.inl rfl) (by decide) (pab_cons (peb_isE T.X_NoLadder hz.zc hv rfl (.inl rfl) rfl rfl (pe_glob (v := .ref q_NoLadder) rfl T.g_NoLadder rfl) (fun u h => h) T.k_NoLadder_NoLadder rfl T.n_isinstance (fun σ H h => h)) (pab_cons (peb_isE T.X_NoLadder hz.zc hv rfl (.inl rfl) rfl rfl (pe_glob (v := .ref q_NoValue) rfl T.g_NoValue rfl) (fun u h => h) T.k_NoLadder_NoValue rfl T.n_isinstance (fun σ H h => h)) (pab_cons (peb_isE T.X_NoLadder hz.zc hv rfl (.inl rfl) rfl rfl (pe_glob (v := .ref q_NoGrain) rfl T.g_NoGrain rfl) (fun u h => h) T.k_NoLadder_NoGrain rfl T.n_isinstance (fun σ H h => h)) (pab_cons (peb_isE T.X_NoLadder hz.zc hv rfl (.inl rfl) rfl rfl (pe_glob (v := .ref q_NoPick) rfl T.g_NoPick rfl) (fun u h => h) T.k_NoLadder_NoPick rfl T.n_isinstance (fun σ H h => h)) pab_nil)))) (small (by decide)) rfl (.inr rfl) (psn_add (i := 2) (o := 3) g0.nd rfl (.inl rfl) (.inl rfl) rfl rfl (by decide) (pab_cons (peb_isE T.X_NoLadder hz.zc hv rfl (.inl rfl) rfl rfl (pe_glob (v := .ref q_NoRow) rfl T.g_NoRow rfl) (fun u h => h) T.k_NoLadder_NoRow rfl T.n_isinstance (fun σ H h => h.1)) (pab_cons (peb_isE T.X_NoLadder hz.zc hv rfl (.inl rfl) rfl rfl (pe_glob (v := .ref q_NoSuch) rfl T.g_NoSuch rfl) (fun u h => h) T.k_NoLadder_NoSuch rfl T.n_isinstance (fun σ H h => h.1)) (pab_cons (peb_isE T.X_NoLadder hz.zc hv rfl (.inl rfl) rfl rfl (pe_glob (v := .ref q_NoText) rfl T.g_NoText rfl) (fun u h => h) T.k_NoLadder_NoText rfl T.n_isinstance (fun σ H h => h.1)) pab_nil))) (small (by decide)) (small (by decide)) rfl (.inr rfl) (psn_tup (pan_cons oth_same (pen_cat rfl (.inl rfl) rfl rfl (pab_cons (peb_isE T.X_NoLadder hz.zc hv rfl (.inl rfl) rfl rfl (pe_glob (v := .ref q_TooMuch) rfl T.g_TooMuch rfl) (fun u h => h) T.k_NoLadder_TooMuch rfl T.n_isinstance (fun σ H h => h.1)) pab_nil) (small (by decide)) (small (by decide))) (pan_cons oth_same (pen_b (peb_isE T.X_NoLadder hz.zc hv rfl (.inl rfl) rfl rfl (pe_bltn (v := .ty "ValueError") rfl T.n_ValueError (by decide +kernel) rfl) (fun u h => h) T.k_NoLadder_ValueError rfl T.n_isinstance (fun σ H h => h.1))) (pan_cons oth_same (pen_c (w := .non) pe_non (fun _ => (fun _ _ => .non))) pan_nil))) (small (by decide)))))⟩))
    (pss_one (ps_ret (pe_tup (pa_cons (pe_lst pa_nil) (pa_cons pe_bl (pa_cons (pe_var (i := 1) rfl (.inl rfl)) pa_nil))))))), ?_⟩
  refine ⟨v, rfl, fun y dy hy hdy hne => ⟨y, dy, v, d, rfl, upd_same, ?_, ?_⟩⟩
  · exact (rv.fresh hy).same (Same.tr (same_upd hdy) (same_upd (by rw [upd_ne (Ne.symm hne)]; exact hy)))
  have s1 : Same H (upd (upd H dy (.own y)) y (.ins q_Book dy [])) := Same.tr (same_upd hdy) (same_upd (by rw [upd_ne (Ne.symm hne)]; exact hy))
  rcases h with ⟨hb, h⟩ | ⟨L, rfl, hg, hl, hfin, h⟩
  · refine .inl ⟨hb, fun q H' hq s2 => ?_⟩
    have hq' := hq.symm.trans T.g_NoLadder
    injection hq' with hq'
    injection hq' with hq'
    subst hq'
    refine ⟨true, T.x_NoLadder_CubeError, fun _ a ha => ⟨rfl, rfl, rfl, fun r H2 s3 rn => ?_⟩, fun z => Bool.noConfusion z⟩
    exact h r H2 (Same.tr (Same.tr s1 s2) s3) (rn ⟨K, P, w, mg⟩ [] (by simp))
  · refine .inr ⟨L, rfl, hg, hl, hfin, fun A rs a2 a3 kt e3 xss H' hx hB hf nd kp => ⟨rfl, ?_⟩⟩
    refine ⟨small (by decide), fun e1 he1 => ⟨.ref y, rfl, small (by show 3 ≤ 1000000; decide), fun r hr => ?_⟩⟩
    have s2 : Same H' (upd (upd H' e1 (.lst [])) r (.tup [.ref e1, .bl true, .ref y])) := Same.tr (same_upd he1) (same_upd hr)
    have s3 : Same H H' := fun b o e => kp b o (fun z => by rw [z, hy] at e; cases e) (s1 _ _ e)
    have ne : e1 ≠ r := fun z => by rw [← z, upd_same] at hr; cases hr
    refine h r e1 y A rs a2 a3 kt e3 xss _ (Same.tr s3 s2) upd_same (by rw [upd_ne ne, upd_same]) (hB.same s2) ((RpLs.sub (O' := []) (by simp) (RpLs.ge (fun b o hb e => kp b o (by simpa using hb) e) hx)).same s2) (fun b hb => ?_) nd
    rcases List.mem_cons.mp hb with rfl | hb
    · exact hy
    · exact free_back s1 (hf b hb)
end
theorem cell_at (ns : List Int) (k : Int) (h : 0 ≤ k) : g__law_cell_at [.list (ns.map .int), .int k] = .ok (.int (cell ns k.toNat)) := by
  refine runF_ret ?_
  by_cases hk : k < (ns.length : Int)
  · simp [m__law_cell_at, t__law_cell_at_3, hk, ixD_l h (cell_get (show k.toNat < ns.length by omega))]
  · simp [m__law_cell_at, t__law_cell_at_3, hk, cell_none (show ns.length ≤ k.toNat by omega)]

def ch (c : Nat) : D := .str ⟨#[c]⟩
def lets : List Nat := (List.range 26).map (97 + ·)
def figs : List Nat := (List.range 10).map (48 + ·)
theorem in_ch (c : Nat) (l : List Nat) : inD (ch c) (.str ⟨l.toArray⟩) = .ok (.bool (decide (c ∈ l))) := by simp [ch, inD, inStr]
theorem notin_ch (c : Nat) (l : List Nat) : notInD (ch c) (.str ⟨l.toArray⟩) = .ok (.bool (!decide (c ∈ l))) := by simp [ch, notInD, inStr]
theorem ix_ch {l : List Nat} {c : Nat} {i : Int} (hi : 0 ≤ i) (hl : l.length ≤ 1000000) (h : l[i.toNat]? = some c) : ixD (.str ⟨l.toArray⟩) (.int i) = .ok (ch c) := by
  have : (⟨l.toArray⟩ : Str).length ≤ sizeLine := small (by simpa [Str.length] using hl)
  simp [ixD, this, atI_nn hi, h, ch]
theorem seq_ch (l : List Nat) : seqD (.str ⟨l.toArray⟩) = .ok (l.map ch) := by simp [seqD, ch]
theorem len_ch {l : List Nat} (hl : l.length ≤ 1000000) : lenF [.str ⟨l.toArray⟩] = .ok (.int l.length) := by
  rw [lenF_s (small (by simpa [Str.length] using hl))]; simp [Str.length]
theorem add_ch {a b : List Nat} (h : a.length + b.length ≤ 1000000) : addD (.str ⟨a.toArray⟩) (.str ⟨b.toArray⟩) = .ok (.str ⟨(a ++ b).toArray⟩) := by
  rw [addD_ss (small (by simpa [Str.length] using h))]
  congr 2
  show (⟨a.toArray ++ b.toArray⟩ : Str) = _
  simp
theorem sl_ch {l : List Nat} {lo hi : Option Int} (h : l.length ≤ 1000000) : slD (.str ⟨l.toArray⟩) lo hi = .ok (.str ⟨(cutG l lo hi).toArray⟩) := by
  have : (⟨l.toArray⟩ : Str).length ≤ sizeLine := small (by simpa [Str.length] using h)
  show okIf _ _ = _
  rw [decide_eq_true this]
  show R.ok _ = _
  congr 2
theorem eq_ch (a b : List Nat) : eqD (.str ⟨a.toArray⟩) (.str ⟨b.toArray⟩) = .ok (.bool (decide (a = b))) := by
  simp only [eqD, shp_str, PyData.eqv, Bool.and_self, okIf_t]
  congr 2
  rw [Bool.eq_iff_iff]
  simp
theorem ne_ch (a b : List Nat) : neD (.str ⟨a.toArray⟩) (.str ⟨b.toArray⟩) = .ok (.bool (!decide (a = b))) := by
  simp only [neD, shp_str, PyData.eqv, Bool.and_self, okIf_t]
  congr 3
  rw [Bool.eq_iff_iff]
  simp
theorem ch_str (c : Nat) : ch c = .str ⟨[c].toArray⟩ := rfl

theorem letters_e : ("abcdefghijklmnopqrstuvwxyz" : Str) = ⟨lets.toArray⟩ := by decide +kernel
theorem figures_e : ("0123456789" : Str) = ⟨figs.toArray⟩ := by decide +kernel
theorem eq_empty (l : List Nat) : eqD (.str ⟨l.toArray⟩) (.str "") = .ok (.bool (decide (l = []))) := by
  rw [show ("" : Str) = ⟨#[]⟩ by decide +kernel]
  simp only [eqD, shp_str, PyData.eqv, Bool.and_self, okIf_t]
  congr 2
  rw [Bool.eq_iff_iff]
  simp
def wordB (l : List Nat) : Bool := match l with
  | [] => false
  | c :: _ => decide (c ∈ lets) && decide (l.length ≤ 12) && l.all fun c => decide (c ∈ lets ++ figs)
theorem is_word_eq {l : List Nat} (hl : l.length ≤ 1000000) : g_is_word [.str ⟨l.toArray⟩] = .ok (.bool (wordB l)) := by
  refine runF_ret ?_
  have e1 := len_ch hl
  have e2 := eq_empty l
  have e3 := seq_ch l
  have e4 := lcL_all (ρ := [some (.str ⟨l.toArray⟩), none]) (bnd := bName 1) (ge := e_is_word_5) ch (fun c => .bool (decide (c ∈ lets ++ figs))) l (fun c _ => ⟨_, rfl, by
    have a1 := in_ch c lets
    have a2 := in_ch c figs
    rw [← letters_e] at a1
    rw [← figures_e] at a2
    by_cases h : c ∈ lets <;> simp -implicitDefEqProofs [e_is_word_5, a1, a2, h]⟩)
  have e5 := @allF_e (l.map fun c => decide (c ∈ lets ++ figs))
  rw [List.map_map] at e5
  have hz : l.length ≤ sizeLine := small hl
  cases l with
  | nil => simp -implicitDefEqProofs [m_is_word, t_is_word_3, isiD, e2, wordB]
  | cons c cs =>
    have e6 : ixD (.str ⟨(c :: cs).toArray⟩) (.int 0) = .ok (ch c) := ix_ch (by decide) hl rfl
    have e7 := notin_ch c lets
    rw [← letters_e] at e7
    have e2' : eqD (.str ⟨(c :: cs).toArray⟩) (.str "") = .ok (.bool false) := by rw [e2]; simp
    clear e2
    have ei : isiF "str" (.str ⟨(c :: cs).toArray⟩) = .ok (.bool true) := rfl
    generalize PyData.str ⟨(c :: cs).toArray⟩ = Z at *
    generalize hn : (c :: cs).length = n at *
    have hw : wordB (c :: cs) = (decide (c ∈ lets) && decide (n ≤ 12) && (c :: cs).all fun c => decide (c ∈ lets ++ figs)) := by rw [← hn]; rfl
    generalize hq : c :: cs = q at *
    rw [hw]
    have e5' : allF [.list (q.map fun c => .bool (decide (c ∈ lets ++ figs)))] = .ok (.bool (q.all fun c => decide (c ∈ lets ++ figs))) := by
      rw [show (fun c => PyData.bool (decide (c ∈ lets ++ figs))) = PyData.bool ∘ (fun c => decide (c ∈ lets ++ figs)) from rfl, e5]; simp
    generalize q.map (fun c => PyData.bool (decide (c ∈ lets ++ figs))) = QQ at *
    generalize (q.all fun c => decide (c ∈ lets ++ figs)) = al at *
    have hz : (q.map ch).length ≤ sizeLine := by simpa [hn] using hz
    generalize q.map ch = R at *
    by_cases h1 : n ≤ 12
    · have h2 : ¬ (12 : Int) < n := by omega
      by_cases h3 : c ∈ lets <;> simp -implicitDefEqProofs [m_is_word, t_is_word_3, t_is_word_5, ei, e1, e2', e3, h1, h2, h3, e6, e7, hz, e4, e5']
    · have h2 : (12 : Int) < n := by omega
      simp -implicitDefEqProofs [m_is_word, t_is_word_3, t_is_word_5, ei, e1, e2', h1, h2]
theorem not_word {d : D} (h : isiF "str" d = .ok (.bool false)) : g_is_word [d] = .ok (.bool false) := by
  refine runF_ret ?_
  simp -implicitDefEqProofs [m_is_word, h]

inductive VV | n | i (z : Int) | w (l : List Nat)
deriving DecidableEq
def VV.enc : VV → D
  | .n => .none
  | .i z => .int z
  | .w l => .str ⟨l.toArray⟩
def VV.lt : VV → VV → Bool
  | .n, .n => false
  | .n, _ => true
  | _, .n => false
  | .i a, .i b => decide (a < b)
  | .i _, _ => true
  | _, .i _ => false
  | .w a, .w b => decide (a < b)
theorem VV.irr (a : VV) : a.lt a = false := by
  cases a with
  | n => rfl
  | i z => simp [VV.lt]
  | w l => simp [VV.lt, List.lt_irrefl]
theorem VV.trans {a b c : VV} (h : a.lt b = true) (k : b.lt c = true) : a.lt c = true := by
  cases a <;> cases b <;> cases c <;> simp [VV.lt] at * <;> first
    | omega
    | exact List.lt_trans h k
theorem VV.tri {a b : VV} (h : a ≠ b) : a.lt b = true ∨ b.lt a = true := by
  cases a with
  | n => cases b with
    | n => exact absurd rfl h
    | i z => exact .inl rfl
    | w l => exact .inl rfl
  | i z => cases b with
    | n => exact .inr rfl
    | i y => have : z ≠ y := fun e => h (by rw [e]); simp only [VV.lt, decide_eq_true_eq]; omega
    | w l => exact .inl rfl
  | w l => cases b with
    | n => exact .inr rfl
    | i y => exact .inr rfl
    | w m =>
      have hne : l ≠ m := fun e => h (by rw [e])
      simp only [VV.lt, decide_eq_true_eq]
      by_cases h1 : l < m
      · exact .inl h1
      · by_cases h2 : m < l
        · exact .inr h2
        · exact absurd (List.le_antisymm (List.not_lt.mp h2) (List.not_lt.mp h1)) hne
theorem VV.enc_inj {a b : VV} (h : a.enc = b.enc) : a = b := by
  cases a <;> cases b <;> simp [VV.enc] at h <;> first | rfl | (rw [h])
theorem VV.shp (n : Nat) (a : VV) : shp n a.enc = true := by cases a <;> simp [VV.enc]
theorem str_beq (l m : List Nat) : ((⟨l.toArray⟩ : Str) == ⟨m.toArray⟩) = decide (l = m) := by
  rw [Bool.eq_iff_iff]; simp
theorem VV.eqv (a b : VV) : PyData.eqv a.enc b.enc = decide (a = b) := by
  cases a <;> cases b <;> simp [VV.enc, PyData.eqv, str_beq, Bool.beq_eq_decide_eq]
def lexV : List VV → List VV → Bool
  | [], [] => false
  | [], _ :: _ => true
  | _ :: _, [] => false
  | a :: as, b :: bs => if a = b then lexV as bs else a.lt b
theorem lexV_irr : ∀ a, lexV a a = false
  | [] => rfl
  | a :: as => by simp [lexV, lexV_irr as]
theorem lexV_tri : ∀ {a b : List VV}, a ≠ b → lexV a b = true ∨ lexV b a = true
  | [], [], h => absurd rfl h
  | [], _ :: _, _ => .inl rfl
  | _ :: _, [], _ => .inr rfl
  | a :: as, b :: bs, h => by
    by_cases e : a = b
    · subst e
      have : as ≠ bs := fun z => h (by rw [z])
      simpa [lexV] using lexV_tri this
    · simpa [lexV, e, Ne.symm e] using VV.tri e
theorem lexV_trans : ∀ {a b c : List VV}, lexV a b = true → lexV b c = true → lexV a c = true
  | [], [], _, h, _ => by simp [lexV] at h
  | _ :: _, [], _, h, _ => by simp [lexV] at h
  | [], _ :: _, [], _, k => by simp [lexV] at k
  | [], _ :: _, _ :: _, _, _ => rfl
  | _ :: _, _ :: _, [], _, k => by simp [lexV] at k
  | a :: as, b :: bs, c :: cs, h, k => by
    simp only [lexV] at *
    by_cases e1 : a = b
    · subst e1
      by_cases e2 : a = c
      · subst e2
        simp at h k ⊢
        exact lexV_trans h k
      · simpa [e2] using k
    · simp only [e1, if_false] at h
      by_cases e2 : b = c
      · subst e2
        simpa [e1] using h
      · simp only [e2, if_false] at k
        have hac : a ≠ c := fun z => by
          subst z
          have := VV.trans h k
          rw [VV.irr] at this; cases this
        simpa [hac] using VV.trans h k
def leK (a b : List VV) : Bool := !lexV b a
theorem leK_trans (a b c : List VV) (h : leK a b = true) (k : leK b c = true) : leK a c = true := by
  simp only [leK, Bool.not_eq_true'] at *
  cases q : lexV c a with
  | false => rfl
  | true =>
    exfalso
    by_cases e : a = b
    · subst e; rw [q] at k; cases k
    · rcases lexV_tri e with z | z
      · have := lexV_trans q z; rw [k] at this; cases this
      · rw [h] at z; cases z
theorem leK_total (a b : List VV) : (leK a b || leK b a) = true := by
  simp only [leK, Bool.or_eq_true, Bool.not_eq_true']
  cases q : lexV b a with
  | false => exact .inl rfl
  | true =>
    refine .inr ?_
    cases r : lexV a b with
    | false => rfl
    | true => have := lexV_trans q r; rw [lexV_irr] at this; cases this
/-- adjacent equals are dropped -/
def ddp : List (List VV) → List (List VV) → List (List VV)
  | acc, [] => acc
  | acc, k :: ks => ddp (if acc.getLast? = some k then acc else acc ++ [k]) ks
def inOrd (ks : List (List VV)) : List (List VV) := ddp [] (ks.mergeSort leK)
theorem ddp_mem : ∀ (ks acc : List (List VV)) (x : List VV), x ∈ ddp acc ks ↔ x ∈ acc ∨ x ∈ ks
  | [], acc, x => by simp [ddp]
  | k :: ks, acc, x => by
    rw [ddp, ddp_mem ks]
    split
    · rename_i h
      have : k ∈ acc := List.mem_of_getLast? h
      constructor
      · rintro (h | h)
        · exact .inl h
        · exact .inr (List.mem_cons_of_mem _ h)
      · rintro (h | h)
        · exact .inl h
        · rcases List.mem_cons.mp h with rfl | h
          · exact .inl this
          · exact .inr h
    · simp only [List.mem_append, List.mem_singleton, List.mem_cons, or_assoc, List.not_mem_nil, false_or]
theorem ddp_len : ∀ (ks acc : List (List VV)), (ddp acc ks).length ≤ acc.length + ks.length
  | [], acc => by simp [ddp]
  | k :: ks, acc => by
    rw [ddp]
    split
    · have := ddp_len ks acc; simp; omega
    · have := ddp_len ks (acc ++ [k]); simp at this ⊢; omega
theorem ddp_inc : ∀ (ks acc : List (List VV)), ks.Pairwise (fun a b => leK a b = true) → acc.Pairwise (fun a b => lexV a b = true) → (∀ a ∈ acc, ∀ k ∈ ks, leK a k = true) → (ddp acc ks).Pairwise (fun a b => lexV a b = true)
  | [], acc, _, h, _ => h
  | k :: ks, acc, hk, h, hb => by
    obtain ⟨h1, h2⟩ := List.pairwise_cons.mp hk
    rw [ddp]
    split
    · exact ddp_inc ks acc h2 h fun a ha x hx => hb a ha x (List.mem_cons_of_mem _ hx)
    · rename_i hl
      refine ddp_inc ks (acc ++ [k]) h2 ?_ fun a ha x hx => ?_
      · refine List.pairwise_append.mpr ⟨h, List.pairwise_singleton _ _, fun a ha b hb' => ?_⟩
        rw [List.mem_singleton.mp hb']
        have hle := hb a ha k (List.mem_cons_self)
        simp only [leK, Bool.not_eq_true'] at hle
        have hne : a ≠ k := fun z => by
          subst z
          obtain ⟨i, hi, e⟩ := List.getElem_of_mem ha
          by_cases hlast : i = acc.length - 1
          · exact hl (by rw [List.getLast?_eq_getElem?, ← hlast, List.getElem?_eq_getElem hi, e])
          · have hn : acc.length - 1 < acc.length := by omega
            have h3 := List.pairwise_iff_getElem.mp h i (acc.length - 1) hi hn (by omega)
            rw [e] at h3
            have h4 := hb acc[acc.length - 1] (List.getElem_mem hn) a (List.mem_cons_self)
            simp only [leK, Bool.not_eq_true'] at h4
            rw [h4] at h3; cases h3
        rcases lexV_tri hne with z | z
        · exact z
        · rw [hle] at z; cases z
      · rcases List.mem_append.mp ha with ha | ha
        · exact hb a ha x (List.mem_cons_of_mem _ hx)
        · rw [List.mem_singleton.mp ha]; exact h1 x hx
theorem inOrd_mem (ks : List (List VV)) (x : List VV) : x ∈ inOrd ks ↔ x ∈ ks := by
  rw [inOrd, ddp_mem, (List.mergeSort_perm ks leK).mem_iff]; simp
theorem inOrd_inc (ks : List (List VV)) : (inOrd ks).Pairwise (fun a b => lexV a b = true) :=
  ddp_inc _ [] (List.pairwise_mergeSort leK_trans leK_total ks) .nil (by simp)
theorem inOrd_len (ks : List (List VV)) : (inOrd ks).length ≤ ks.length := by
  have := ddp_len (ks.mergeSort leK) []
  rw [(List.mergeSort_perm ks leK).length_eq] at this
  simpa [inOrd] using this
/-- there is one such list -/
theorem inc_uniq : ∀ {a b : List (List VV)}, a.Pairwise (fun x y => lexV x y = true) → b.Pairwise (fun x y => lexV x y = true) → (∀ x, x ∈ a ↔ x ∈ b) → a = b
  | [], [], _, _, _ => rfl
  | [], y :: b, _, _, h => by have := (h y).mpr List.mem_cons_self; cases this
  | x :: a, [], _, _, h => by have := (h x).mp List.mem_cons_self; cases this
  | x :: a, y :: b, ha, hb, h => by
    obtain ⟨a1, a2⟩ := List.pairwise_cons.mp ha
    obtain ⟨b1, b2⟩ := List.pairwise_cons.mp hb
    have e : x = y := by
      rcases List.mem_cons.mp ((h x).mp List.mem_cons_self) with e | e
      · exact e
      · rcases List.mem_cons.mp ((h y).mpr List.mem_cons_self) with f | f
        · exact f.symm
        · have := lexV_trans (a1 y f) (b1 x e)
          rw [lexV_irr] at this; cases this
    subst e
    congr 1
    refine inc_uniq a2 b2 fun z => ?_
    constructor
    · intro hz
      rcases List.mem_cons.mp ((h z).mp (List.mem_cons_of_mem _ hz)) with q | q
      · subst q; have := a1 z hz; rw [lexV_irr] at this; cases this
      · exact q
    · intro hz
      rcases List.mem_cons.mp ((h z).mpr (List.mem_cons_of_mem _ hz)) with q | q
      · subst q; have := b1 z hz; rw [lexV_irr] at this; cases this
      · exact q

def encT (k : List VV) : D := .tuple (k.map VV.enc)
theorem encT_shp (n : Nat) (k : List VV) : shp (n + 1) (encT k) = true := by
  simp [encT, shp_tup, VV.shp]

/-- the i-th of such numbers -/
def gt (s : List Int) (i : Nat) : Int := s.getD i 0
theorem gt_ix {s : List Int} {i : Nat} (h : i < s.length) : ixD (.list (s.map .int)) (.int i) = .ok (.int (gt s i)) := ixD_l (by omega) (by simp [gt, h])
def hd (l : List VV) : VV := l.getD 0 .n
def lst (l : List VV) : VV := l.getD (l.length - 1) .n
theorem T_ix {l : List VV} {i : Nat} (h : i < l.length) : ixD (encT l) (.int i) = .ok (l.getD i .n).enc := ixD_t (by omega) (by simp [h])
theorem T_len (l : List VV) : lenF [encT l] = .ok (.int l.length) := by simp [encT]
theorem T_last {l : List VV} (h : 0 < l.length) : ixD (encT l) (.int (-1)) = .ok (lst l).enc := by
  have e : ixN (l.map VV.enc).length (-1) = some (l.length - 1) := by
    rw [List.length_map]
    unfold ixN
    simp
    omega
  unfold encT ixD atI
  simp only [e, Option.bind_some, lst, List.getElem?_map]
  rw [List.getD_eq_getElem?_getD, List.getElem?_eq_getElem (by omega)]; rfl
theorem T_add {l : List VV} {v : VV} (h : l.length ≤ 1000) : addD (encT l) (.tuple [v.enc]) = .ok (encT (l ++ [v])) := by
  unfold encT
  rw [addD_tt (small (by simp; omega))]; simp
theorem VV_leafy (a : VV) : leafy a.enc = true := by cases a <;> rfl
theorem VV_key (a b : VV) : keyN a.enc = keyN b.enc ↔ a = b := by
  cases a <;> cases b <;> simp [VV.enc, keyN]
theorem nd_range {α : Type} {n : Nat} {f : Nat → α} (h : ∀ i j, i < n → j < n → f i = f j → i = j) : ((List.range n).map f).Nodup := by
  rw [List.nodup_iff_pairwise_ne, List.pairwise_map, List.pairwise_iff_getElem]
  intro i j hi hj hij e
  simp only [List.length_range] at hi hj
  simp only [List.getElem_range] at e
  have := h i j hi hj e; omega
theorem mk2 {a b : D} : mkLst [a, b] = .ok (.list [a, b]) := mkLst_ok (small (by simp))
theorem V_ix {vs : List VV} {i : Int} (h0 : 0 ≤ i) (h : i < vs.length) : ixD (.list (vs.map VV.enc)) (.int i) = .ok (vs.getD i.toNat .n).enc := ixD_l h0 (by simp [show i.toNat < vs.length by omega])
theorem getD_mem {α : Type} {l : List α} {d : α} {i : Nat} (h : i < l.length) : l.getD i d ∈ l := by
  rw [List.getD_eq_getElem?_getD, List.getElem?_eq_getElem h]; exact List.getElem_mem h
theorem hd_app {l : List VV} {v : VV} (h : 0 < l.length) : hd (l ++ [v]) = hd l := by
  cases l with
  | nil => simp at h
  | cons a l => rfl
def encL (ls : List (List VV)) : D := .list (ls.map encT)
theorem ix_any {ds : List D} {j : Int} (h0 : 0 ≤ j) (h : j < ds.length) : ∃ d ∈ ds, ixD (.list ds) (.int j) = .ok d := by
  have hl : j.toNat < ds.length := by omega
  exact ⟨ds[j.toNat], List.getElem_mem hl, ixD_l h0 (List.getElem?_eq_getElem hl)⟩
theorem encL_shp (n : Nat) (k : List (List VV)) : shp (n + 2) (encL k) = true := by
  simp [encL, shp_lst, encT_shp]
theorem lads_shp (n : Nat) (k : List (List (List VV))) : shp (n + 3) (.list (k.map encL)) = true := by
  simp [shp_lst, encL_shp]

def okV : VV → Prop
  | .n => False
  | .i _ => True
  | .w l => wordB l = true
theorem whole_int (z : Int) : g_is_whole [.int z] = .ok (.bool true) := by refine runF_ret ?_; simp [m_is_whole, isiD]
theorem whole_str (z : Str) : g_is_whole [.str z] = .ok (.bool false) := by refine runF_ret ?_; simp [m_is_whole, isiD]
theorem wordB_len {l : List Nat} (h : wordB l = true) : 1 ≤ l.length ∧ l.length ≤ 12 := by
  cases l with
  | nil => simp [wordB] at h
  | cons c l =>
    simp only [wordB, Bool.and_eq_true, decide_eq_true_eq] at h
    exact ⟨by simp, h.1.2⟩
theorem value_ok {v : VV} (h : okV v) : g_is_value [v.enc] = .ok (.bool true) := by
  refine runF_ret ?_
  cases v with
  | n => exact h.elim
  | i z =>
    have := whole_int z
    simp -implicitDefEqProofs [m_is_value, VV.enc, this]
  | w l =>
    have e1 := whole_str ⟨l.toArray⟩
    have e2 := is_word_eq (l := l) (by have := wordB_len h; omega)
    rw [h] at e2
    simp -implicitDefEqProofs [m_is_value, VV.enc, e1, e2]
/-- a line -/
structure okL (l : List VV) : Prop where
  n : 1 ≤ l.length ∧ l.length ≤ 4
  v : ∀ v ∈ l, okV v
theorem is_line_tup {its : List D} {bs : List Bool} (hz : its.length ≤ 1000) (hb : its.map (fun d => g_is_value [d]) = bs.map fun b => R.ok (.bool b)) : g_is_line [.tuple its] = .ok (.bool (decide (1 ≤ its.length ∧ its.length ≤ 4) && bs.all id)) := by
  have hl : its.length = bs.length := by have := congrArg List.length hb; simpa using this
  have ec := lcL_all (ρ := [some (.tuple its), none]) (bnd := bName 1) (ge := e_is_line_3) (fun p : D × Bool => p.1) (fun p => .bool p.2) (its.zip bs) (fun p hp => ⟨_, rfl, by
    obtain ⟨i, hi, e⟩ := List.getElem_of_mem hp
    simp only [List.length_zip] at hi
    have h1 : i < its.length := by omega
    have h2 : i < bs.length := by omega
    have := congrArg (fun L => L[i]?) hb
    simp only [List.getElem?_map, List.getElem?_eq_getElem h1, List.getElem?_eq_getElem h2, Option.map_some] at this
    have h3 := Option.some.inj this
    rw [List.getElem_zip] at e
    rw [← e]
    simp -implicitDefEqProofs [e_is_line_3, h3]⟩)
  rw [List.map_fst_zip (by omega)] at ec
  have e2 : (its.zip bs).map (fun p => PyData.bool p.2) = bs.map .bool := by
    have : (its.zip bs).map (fun p => PyData.bool p.2) = ((its.zip bs).map Prod.snd).map .bool := by rw [List.map_map]; rfl
    rw [this, List.map_snd_zip (by omega)]
  rw [e2] at ec
  refine runF_ret ?_
  have hz2 : its.length ≤ sizeLine := small (by omega)
  by_cases h1 : 1 ≤ its.length
  · have l1 : leD (.int 1) (.int its.length) = .ok (.bool true) := by rw [leD_ii]; simp; omega
    by_cases h4 : its.length ≤ 4
    · have l2 : leD (.int its.length) (.int 4) = .ok (.bool true) := by rw [leD_ii]; simp; omega
      rw [decide_eq_true (show 1 ≤ its.length ∧ its.length ≤ 4 from ⟨h1, h4⟩)]
      simp -implicitDefEqProofs [m_is_line, t_is_line_3, isiD, l1, l2, hz2, ec, -leD_ii]
    · have l2 : leD (.int its.length) (.int 4) = .ok (.bool false) := by rw [leD_ii]; simp; omega
      rw [decide_eq_false (show ¬ (1 ≤ its.length ∧ its.length ≤ 4) from fun z => h4 z.2)]
      simp -implicitDefEqProofs [m_is_line, isiD, l1, l2, -leD_ii]
  · have l1 : leD (.int 1) (.int its.length) = .ok (.bool false) := by rw [leD_ii]; simp; omega
    rw [decide_eq_false (show ¬ (1 ≤ its.length ∧ its.length ≤ 4) from fun z => h1 z.1)]
    simp -implicitDefEqProofs [m_is_line, isiD, l1, -leD_ii]
theorem is_line_ok {l : List VV} (h : okL l) : g_is_line [encT l] = .ok (.bool true) := by
  have := is_line_tup (its := l.map VV.enc) (bs := l.map fun _ => true) (by have := h.n; simp; omega) (by
    rw [List.map_map, List.map_map]
    exact List.map_congr_left fun v hv => value_ok (h.v v hv))
  rw [List.length_map, decide_eq_true h.n, show (l.map fun _ => true).all id = true by simp] at this
  exact this
/-- two lines go together -/
def Tog (a b : List VV) : Prop := a.length = b.length ∧ hd a ≠ hd b ∧ ∀ i, i + 1 < a.length → a[i]? = b[i]? → a[i + 1]? = b[i + 1]?
theorem encT_eq (a b : List VV) : eqD (encT a) (encT b) = .ok (.bool (decide (a = b))) := by
  simp only [eqD, encT_shp, Bool.and_self, okIf_t]
  have : ∀ a b : List VV, PyData.eqvAll (a.map VV.enc) (b.map VV.enc) = decide (a = b) := by
    intro a
    induction a with
    | nil => intro b; cases b <;> simp [PyData.eqvAll]
    | cons x xs ih =>
      intro b
      cases b with
      | nil => simp [PyData.eqvAll]
      | cons y ys =>
        simp only [List.map_cons, PyData.eqvAll, VV.eqv, ih]
        by_cases h : x = y <;> simp [h]
  rw [encT, encT, PyData.eqv, this]
theorem VV_eq (a b : VV) : eqD a.enc b.enc = .ok (.bool (decide (a = b))) := by
  simp only [eqD, VV.shp, Bool.and_self, okIf_t, VV.eqv]
theorem VV_ne (a b : VV) : neD a.enc b.enc = .ok (.bool (!decide (a = b))) := by
  simp only [neD, VV.shp, Bool.and_self, okIf_t, VV.eqv]
theorem tog_drop {a b : List VV} (hl : a.length = b.length) (h : ∀ i, i + 1 < a.length → a[i]? = b[i]? → a[i + 1]? = b[i + 1]?) {i : Nat} (e : a[i]? = b[i]?) : a.drop i = b.drop i := by
  refine List.ext_getElem? fun j => ?_
  rw [List.getElem?_drop, List.getElem?_drop]
  induction j with
  | zero => simpa using e
  | succ j ih =>
    by_cases hj : i + j + 1 < a.length
    · exact h (i + j) hj ih
    · rw [List.getElem?_eq_none (by omega), List.getElem?_eq_none (by omega)]
theorem getD_ix {l : List VV} {i : Nat} (h : i < l.length) : l[i]? = some (l.getD i .n) := by
  rw [List.getD_eq_getElem?_getD, List.getElem?_eq_getElem h]; rfl
open Classical in
theorem together_eq {a b : List VV} (ha : okL a) (hb : okL b) : g_go_together [encT a, encT b] = .ok (.bool (decide (Tog a b))) := by
  refine runF_ret ?_
  have la := T_len a
  have lb := T_len b
  have a0 : ixD (encT a) (.int 0) = .ok (hd a).enc := T_ix (i := 0) (by have := ha.n; omega)
  have b0 : ixD (encT b) (.int 0) = .ok (hd b).enc := T_ix (i := 0) (by have := hb.n; omega)
  have e0 := VV_eq (hd a) (hd b)
  by_cases hl : a.length = b.length
  · have n0 : neD (.int (a.length : Int)) (.int (b.length : Int)) = .ok (.bool false) := by rw [neD_ii]; simp; omega
    by_cases hh : hd a = hd b
    · rw [decide_eq_false (show ¬ Tog a b from fun z => z.2.1 hh)]
      rw [decide_eq_true hh] at e0
      generalize encT a = A at *
      generalize encT b = B at *
      generalize (hd a).enc = HA at *
      generalize (hd b).enc = HB at *
      simp -implicitDefEqProofs [m_go_together, la, lb, n0, a0, b0, e0, -neD_ii]
    · rw [decide_eq_false hh] at e0
      have key := forL_ixR (bnd := bName 2) (body := b_go_together_3) (fun (i : Nat) => PyData.int ((1 + i : Nat) : Int)) (fun i ρ => ∃ x, (∀ j, j < i → a[1 + j]? ≠ b[1 + j]?) ∧ ρ = [some (encT a), some (encT b), x]) (fun d => d = .bool (decide (Tog a b)))
        (List.range (a.length - 1)) [some (encT a), some (encT b), none] ⟨none, by simp, rfl⟩ (fun i x ρ hx ⟨y, h1, e⟩ => by
          subst e
          obtain ⟨hi, ej⟩ := List.getElem?_eq_some_iff.mp hx
          rw [List.getElem_range] at ej
          subst ej
          simp only [List.length_range] at hi
          have i1 := T_ix (l := a) (i := 1 + i) (by omega)
          have i2 := T_ix (l := b) (i := 1 + i) (by omega)
          have e1 := VV_eq (a.getD (1 + i) .n) (b.getD (1 + i) .n)
          have g1 := getD_ix (l := a) (i := 1 + i) (by omega)
          have g2 := getD_ix (l := b) (i := 1 + i) (by omega)
          have s1 : slD (encT a) (some ((1 + i : Nat) : Int)) none = .ok (encT (a.drop (1 + i))) := by
            unfold encT
            rw [slD_t, cutD_map, cutG_pn (by omega)]; rfl
          have s2 : slD (encT b) (some ((1 + i : Nat) : Int)) none = .ok (encT (b.drop (1 + i))) := by
            unfold encT
            rw [slD_t, cutD_map, cutG_pn (by omega)]; rfl
          have e2 := encT_eq (a.drop (1 + i)) (b.drop (1 + i))
          refine ⟨_, rfl, ?_⟩
          by_cases hq : a.getD (1 + i) .n = b.getD (1 + i) .n
          · rw [decide_eq_true hq] at e1
            have ht : Tog a b ↔ a.drop (1 + i) = b.drop (1 + i) := by
              constructor
              · intro t; exact tog_drop hl t.2.2 (by rw [g1, g2, hq])
              · intro ed
                refine ⟨hl, hh, fun j hj ej => ?_⟩
                by_cases hji : j < 1 + i
                · exfalso
                  by_cases hj0 : j = 0
                  · subst hj0
                    apply hh
                    have q1 := getD_ix (l := a) (i := 0) (by omega)
                    have q2 := getD_ix (l := b) (i := 0) (by omega)
                    rw [q1, q2] at ej
                    exact Option.some.inj ej
                  · exact h1 (j - 1) (by omega) (by rw [show 1 + (j - 1) = j by omega]; exact ej)
                · have := congrArg (fun L => L[j + 1 - (1 + i)]?) ed
                  simp only [List.getElem?_drop] at this
                  rw [show 1 + i + (j + 1 - (1 + i)) = j + 1 by omega] at this
                  exact this
            refine .inr ⟨.bool (decide (a.drop (1 + i) = b.drop (1 + i))), ?_, by congr 1; exact (decide_eq_decide.mpr ht).symm ▸ (by congr)⟩
            generalize ((1 + i : Nat) : Int) = ii at *
            generalize encT (a.drop (1 + i)) = A2 at *
            generalize encT (b.drop (1 + i)) = B2 at *
            generalize encT a = A at *
            generalize encT b = B at *
            generalize (a.getD (1 + i) .n).enc = HA at *
            generalize (b.getD (1 + i) .n).enc = HB at *
            simp -implicitDefEqProofs [b_go_together_3, i1, i2, e1, s1, s2, e2]
          · rw [decide_eq_false hq] at e1
            refine .inl ⟨_, .inl ?_, some (.int ((1 + i : Nat) : Int)), fun j hj ej => ?_, rfl⟩
            · generalize ((1 + i : Nat) : Int) = ii at *
              generalize encT a = A at *
              generalize encT b = B at *
              generalize (a.getD (1 + i) .n).enc = HA at *
              generalize (b.getD (1 + i) .n).enc = HB at *
              simp -implicitDefEqProofs [b_go_together_3, i1, i2, e1]
            · by_cases hji : j < i
              · exact h1 j hji ej
              · have : j = i := by omega
                subst this
                rw [g1, g2] at ej
                exact hq (Option.some.inj ej))
      have er : rng2 [.int 1, .int (a.length : Int)] = .ok ((List.range (a.length - 1)).map fun (i : Nat) => PyData.int ((1 + i : Nat) : Int)) := by
        have := ha.n
        have : -(2 ^ 62) ≤ (1 : Int) ∧ (1 : Int) < 2 ^ 62 ∧ -(2 ^ 62) ≤ (a.length : Int) ∧ (a.length : Int) < 2 ^ 62 := by omega
        rw [rng2, if_pos this, rngL, show ((a.length : Int) - 1).toNat = a.length - 1 by omega]
        congr 1
      generalize ((List.range (a.length - 1)).map fun (i : Nat) => PyData.int ((1 + i : Nat) : Int)) = R at *
      rcases key with ⟨ρ2, el, x, h1, rfl⟩ | ⟨d, el, rfl⟩
      · have ht : Tog a b := by
          refine ⟨hl, hh, fun j hj ej => ?_⟩
          exfalso
          by_cases hj0 : j = 0
          · subst hj0
            apply hh
            have q1 := getD_ix (l := a) (i := 0) (by omega)
            have q2 := getD_ix (l := b) (i := 0) (by omega)
            rw [q1, q2] at ej
            exact Option.some.inj ej
          · refine h1 (j - 1) (by simp; omega) ?_
            rw [show 1 + (j - 1) = j by omega]; exact ej
        rw [decide_eq_true ht]
        generalize encT a = A at *
        generalize encT b = B at *
        generalize (hd a).enc = HA at *
        generalize (hd b).enc = HB at *
        simp -implicitDefEqProofs [m_go_together, t_go_together_3, t_go_together_6, la, lb, n0, a0, b0, e0, er, el, -neD_ii]
      · generalize decide (Tog a b) = dd at *
        generalize encT a = A at *
        generalize encT b = B at *
        generalize (hd a).enc = HA at *
        generalize (hd b).enc = HB at *
        simp -implicitDefEqProofs [m_go_together, t_go_together_3, t_go_together_6, la, lb, n0, a0, b0, e0, er, el, -neD_ii]
  · rw [decide_eq_false (show ¬ Tog a b from fun z => hl z.1)]
    have n0 : neD (.int (a.length : Int)) (.int (b.length : Int)) = .ok (.bool true) := by rw [neD_ii]; simp; omega
    generalize encT a = A at *
    generalize encT b = B at *
    simp -implicitDefEqProofs [m_go_together, la, lb, n0, -neD_ii]
def Good (ds : List D) : Prop := ∃ ls : List (List VV), ds = ls.map encT ∧ (∀ l ∈ ls, okL l) ∧ ls.Pairwise fun a b => Tog b a
theorem encT_inj {a b : List VV} (h : encT a = encT b) : a = b := by
  have h : a.map VV.enc = b.map VV.enc := by simpa [encT] using h
  exact (List.map_inj_right fun x y => VV.enc_inj).mp h
theorem encTs_inj {a b : List (List VV)} (h : a.map encT = b.map encT) : a = b := (List.map_inj_right fun x y => encT_inj).mp h
/-- things of which the program says whether they are lines -/
def LineC (d : D) : Prop := (∃ l, okL l ∧ d = encT l) ∨ g_is_line [d] = .ok (.bool false)
theorem not_good {ds : List D} {i : Nat} {d : D} (hd' : ds[i]? = some d) (h : ∀ l, okL l → d ≠ encT l) : ¬ Good ds := fun ⟨ls, e, ok, _⟩ => by
  subst e
  rw [List.getElem?_map] at hd'
  obtain ⟨l, hl, e⟩ := Option.map_eq_some_iff.mp hd'
  exact h l (ok l (List.mem_of_getElem? hl)) e.symm
theorem not_line {d : D} (h : g_is_line [d] = .ok (.bool false)) (l : List VV) (hl : okL l) : d ≠ encT l := fun e => by
  subst e
  rw [is_line_ok hl] at h
  cases h
theorem not_tog {ls : List (List VV)} {ds : List D} {i : Nat} {l o : List VV} (ht : ds.take i = ls.map encT) (hd' : ds[i]? = some (encT l)) (ho : o ∈ ls) (h : ¬ Tog l o) : ¬ Good ds := fun ⟨ls', e, _, pw⟩ => by
  subst e
  rw [← List.map_take] at ht
  have ht := encTs_inj ht
  rw [List.getElem?_map] at hd'
  obtain ⟨l', hl', e⟩ := Option.map_eq_some_iff.mp hd'
  have e := encT_inj e
  subst e
  subst ht
  obtain ⟨j, hj, rfl⟩ := List.getElem_of_mem ho
  simp only [List.length_take] at hj
  obtain ⟨hi, e2⟩ := List.getElem?_eq_some_iff.mp hl'
  have := List.pairwise_iff_getElem.mp pw j i (by omega) hi (by omega)
  rw [e2] at this
  rw [List.getElem_take] at h
  exact h this
open Classical in
theorem are_lines_eq {ds : List D} (hc : ∀ d ∈ ds, LineC d) (hz : ds.length ≤ 1000) : g_are_lines [.list ds] = .ok (.bool (decide (Good ds))) := by
  have key := forL_ixR (bnd := bName 1) (body := b_are_lines_1) (fun (i : Nat) => PyData.int (i : Int)) (fun i ρ => ∃ (x1 x2 : Option D) (ls : List (List VV)), ds.take i = ls.map encT ∧ (∀ l ∈ ls, okL l) ∧ (ls.Pairwise fun a b => Tog b a) ∧ ρ = [some (.list ds), x1, x2]) (fun d => d = .bool false ∧ ¬ Good ds)
    (List.range ds.length) [some (.list ds), none, none] ⟨none, none, [], by simp, by simp, by simp, rfl⟩ (fun i x ρ hx ⟨x1, x2, ls, h1, h2, h3, e⟩ => by
      subst e
      obtain ⟨hi, ej⟩ := List.getElem?_eq_some_iff.mp hx
      rw [List.getElem_range] at ej
      subst ej
      simp only [List.length_range] at hi
      have iD : ixD (.list ds) (.int i) = .ok ds[i] := ixD_l (by omega) (by simp [hi])
      have hdi : ds[i]? = some ds[i] := List.getElem?_eq_getElem hi
      rcases hc _ (List.getElem_mem hi) with ⟨l, hl, e⟩ | hn
      · rw [e] at iD hdi
        have e1 := is_line_ok hl
        have s1 : slD (.list ds) none (some (i : Int)) = .ok (.list (ls.map encT)) := by
          rw [slD_l, show cutD ds none (some (i : Int)) = ds.take i from cutG_np (by omega), h1]
        have hzl : (ls.map encT).length ≤ sizeLine := small (by rw [← h1]; simp; omega)
        have k2 := forL_ixR (bnd := bName 2) (body := b_are_lines_4) encT (fun j ρ => ∃ y, (∀ o ∈ ls.take j, Tog l o) ∧ ρ = [some (.list ds), some (.int i), y]) (fun d => d = .bool false ∧ ¬ Good ds)
          ls [some (.list ds), some (.int i), x2] ⟨x2, by simp, rfl⟩ (fun j o ρ hx ⟨y, q1, e⟩ => by
            subst e
            have hom := List.mem_of_getElem? hx
            have e2 := together_eq hl (h2 o hom)
            refine ⟨_, rfl, ?_⟩
            by_cases ht : Tog l o
            · rw [decide_eq_true ht] at e2
              refine .inl ⟨_, .inl ?_, some (encT o), fun p hp => ?_, rfl⟩
              · generalize encT o = OO at *
                generalize encT l = LL at *
                simp -implicitDefEqProofs [b_are_lines_4, iD, e2]
              · rw [List.take_add_one, hx] at hp
                rcases List.mem_append.mp hp with hp | hp
                · exact q1 p hp
                · simp at hp; rw [hp]; exact ht
            · have e2 : g_go_together [encT l, encT o] = .ok (.bool false) := by rw [e2, decide_eq_false ht]
              refine .inr ⟨.bool false, ?_, rfl, not_tog h1 hdi hom ht⟩
              generalize encT o = OO at *
              generalize encT l = LL at *
              simp -implicitDefEqProofs [b_are_lines_4, iD, e2])
        refine ⟨_, rfl, ?_⟩
        rcases k2 with ⟨ρ2, el, y, q1, rfl⟩ | ⟨d, el, rfl, hng⟩
        · rw [List.take_length] at q1
          refine .inl ⟨_, .inl ?_, some (.int i), y, ls ++ [l], ?_, ?_, ?_, rfl⟩
          · generalize ls.map encT = LM at *
            generalize encT l = LL at *
            simp -implicitDefEqProofs [b_are_lines_1, t_are_lines_4, iD, e1, s1, hzl, el, -slD_l]
          · rw [List.take_add_one, hdi, h1]; simp
          · intro o ho
            rcases List.mem_append.mp ho with ho | ho
            · exact h2 o ho
            · rw [List.mem_singleton.mp ho]; exact hl
          · refine List.pairwise_append.mpr ⟨h3, List.pairwise_singleton _ _, fun o ho p hp => ?_⟩
            rw [List.mem_singleton.mp hp]; exact q1 o ho
        · refine .inr ⟨.bool false, ?_, rfl, hng⟩
          generalize ls.map encT = LM at *
          generalize encT l = LL at *
          simp -implicitDefEqProofs [b_are_lines_1, t_are_lines_4, iD, e1, s1, hzl, el, -slD_l]
      · refine ⟨_, rfl, .inr ⟨.bool false, ?_, rfl, not_good hdi (not_line hn)⟩⟩
        generalize ds[i] = d at *
        simp -implicitDefEqProofs [b_are_lines_1, iD, hn])
  have er : rng1 [.int (ds.length : Int)] = .ok ((List.range ds.length).map fun (i : Nat) => PyData.int (i : Int)) := rng1_n _ (by omega)
  have ell : lenF [.list ds] = .ok (.int ds.length) := by simp
  generalize ((List.range ds.length).map fun (i : Nat) => PyData.int (i : Int)) = R at *
  refine runF_ret ?_
  rcases key with ⟨ρ2, el, x1, x2, ls, h1, h2, h3, rfl⟩ | ⟨d, el, rfl, hng⟩
  · have hg : Good ds := ⟨ls, by rw [← h1]; simp, h2, h3⟩
    rw [decide_eq_true hg]
    simp -implicitDefEqProofs [m_are_lines, t_are_lines_7, ell, er, el, -rng1_e, -lenF_l]
  · rw [decide_eq_false hng]
    simp -implicitDefEqProofs [m_are_lines, t_are_lines_7, ell, er, el, -rng1_e, -lenF_l]

theorem glue_ch (l : List Nat) : ∀ a : Array Nat, (l.map fun c => (⟨#[c]⟩ : Str)).foldl (fun acc p => acc ++ ("" : Str).cps ++ p.cps) a = a ++ l.toArray := by
  have h0 : ("" : Str).cps = #[] := by decide +kernel
  rw [h0]
  induction l with
  | nil => intro a; simp
  | cons c l ih => intro a; simp only [List.map_cons, List.foldl_cons]; rw [ih]; simp
theorem join_ch (l : List Nat) : Txt.join "" (l.map fun c => ⟨#[c]⟩) = ⟨l.toArray⟩ := by
  unfold Txt.join Builtin.Str.glued
  cases l with
  | nil => rfl
  | cons c l =>
    congr 1
    simp only [List.map_cons, List.drop_succ_cons, List.drop_zero, List.headD_cons]
    rw [glue_ch]; simp
theorem okIf_p' {b : Bool} {d : D} (h : b = true) : okIf b d = .ok d := by rw [h]; rfl
theorem sum_ch (l : List Nat) : ((l.map fun c => (⟨#[c]⟩ : Str)).map (·.length)).sum = l.length := by
  induction l with
  | nil => rfl
  | cons c l ih =>
    simp only [List.map_cons, List.sum_cons, List.length_cons, ih]
    show 1 + _ = _
    omega
theorem joinS_ch {l : List Nat} (hl : l.length ≤ 1000) (h : ∀ c ∈ l, c < 128) : joinS "" (.list (l.map ch)) = .ok (.str ⟨l.toArray⟩) := by
  have e1 : strsOf (l.map ch) = some (l.map fun c => ⟨#[c]⟩) := by
    rw [← strsOf_map, List.map_map]; rfl
  simp only [joinS, e1, join_ch]
  refine okIf_p' ?_
  have h0 : ("" : Str).length = 0 := by decide +kernel
  have h1 := sum_ch l
  rw [h1, h0, Bool.and_eq_true]
  refine ⟨by simp; omega, strOk_iff.mpr fun c hc => ?_⟩
  have := h c (by simpa using hc); omega
theorem sub_ch {i : Nat} {gi ge : MV.Env → R D} {ρ : MV.Env} {l : List Nat} {c : Nat} {j : Int} (h1 : ρ[i]? = some (some (.list (l.map ch)))) (h2 : ge ρ = .ok (ch c)) (h3 : gi ρ = .ok (.int j)) (h4 : 0 ≤ j) (h5 : j < l.length) : ySub i gi ge ρ = .next (ρ.set i (some (.list ((l.set j.toNat c).map ch)))) := by
  have : ixN l.length j = some j.toNat := by unfold ixN; rw [if_pos h4, if_pos h5]
  simp -implicitDefEqProofs [ySub, h1, h2, h3, this, List.map_set]
theorem set_low {l : List Nat} {j c : Nat} (h : ∀ x ∈ l, x < 128) (hc : c < 128) : ∀ x ∈ l.set j c, x < 128 := fun x hx => by
  rcases List.mem_or_eq_of_mem_set hx with h' | h'
  · exact h x h'
  · omega

def sg : List Nat := lets ++ figs
theorem sg_e : ("abcdefghijklmnopqrstuvwxyz0123456789" : Str) = ⟨sg.toArray⟩ := by decide +kernel
theorem sg_len : sg.length = 36 := by decide +kernel
theorem sg_low : ∀ c ∈ sg, c < 128 := by decide +kernel
def sgA (j : Int) : Nat := sg.getD j.toNat 0
theorem sg_ix {j : Int} (h : 0 ≤ j) (h2 : j < 36) : sgA j ∈ sg ∧ ixD (.str "abcdefghijklmnopqrstuvwxyz0123456789") (.int j) = .ok (ch (sgA j)) := by
  have hl : j.toNat < sg.length := by rw [sg_len]; omega
  have e : sgA j = sg[j.toNat] := by simp [sgA, hl]
  rw [e]
  refine ⟨List.getElem_mem hl, ?_⟩
  rw [sg_e]
  exact ix_ch h (by decide +kernel) (List.getElem?_eq_getElem hl)
theorem sgA_lets {j : Int} (h : 0 ≤ j) (h2 : j < 26) : sgA j ∈ lets := by
  have : ∀ j : Fin 26, sgA (j.val : Int) ∈ lets := by decide +kernel
  have := this ⟨j.toNat, by omega⟩
  rwa [show ((j.toNat : Nat) : Int) = j by omega] at this
theorem sgA_inj {i j : Int} (h : 0 ≤ i ∧ i < 36) (h2 : 0 ≤ j ∧ j < 36) (e : sgA i = sgA j) : i = j := by
  have : ∀ i j : Fin 36, sgA (i.val : Int) = sgA (j.val : Int) → i = j := by decide +kernel
  have := this ⟨i.toNat, by omega⟩ ⟨j.toNat, by omega⟩ (by rwa [show ((i.toNat : Nat) : Int) = i by omega, show ((j.toNat : Nat) : Int) = j by omega])
  have := Fin.mk.inj_iff.mp this
  omega
def Pos (s : List Int) : Prop := ∀ w ∈ s, 0 ≤ w ∧ w < 2147483647
theorem gt_pos {s : List Int} (h : Pos s) (i : Nat) : 0 ≤ gt s i ∧ gt s i < 2147483647 := by
  unfold gt
  by_cases hi : i < s.length
  · simp [hi]; exact h _ (List.getElem_mem hi)
  · simp [hi]
theorem stream56 (c : Int) (m : Nat) (hm : m ≤ 1000) : ∃ s : List Int, s.length = m ∧ Pos s ∧ g__law_stream [.int c, .int m] = .ok (.list (s.map .int)) := by
  obtain ⟨ρ2, eloop, num, xs, k, hl, ⟨hp1, hp2, hp3⟩, rfl⟩ := forL_ix (bnd := bName 4) (body := b__law_stream_3) (fun (i : Nat) => PyData.int (i : Int)) (fun i ρ => ∃ (num : Int) (xs : List Int) (k : Option D), xs.length = i ∧ (0 ≤ num ∧ num < 2147483648 ∧ ∀ w ∈ xs, 0 ≤ w ∧ w < 2147483647) ∧ ρ = [some (.int c), some (.int m), some (.int num), some (.list (xs.map .int)), k])
    (List.range (m + 2)) [some (.int c), some (.int m), some (.int (c % 2147483549 + 17)), some (.list []), none] ⟨_, [], none, rfl, ⟨by omega, by omega, by simp⟩, rfl⟩ (fun i x ρ hx ⟨num, xs, k, hl, ⟨hp, hq, hw⟩, e⟩ => by
      subst e
      have hi : i < m + 2 := by have := (List.getElem?_eq_some_iff.mp hx).1; simpa using this
      have hz : xs.length < sizeLine := smallT (by omega)
      have m1 : mulD (.int num) (.int 45742) = .ok (.int (num * 45742)) := mulD_r (by omega) (by omega)
      have m2 : mulD (.int 29) (.int x) = .ok (.int (29 * x)) := mulD_l (by omega) (by omega)
      have f1 : fdivD (.int num) (.int 46949) = .ok (.int (num / 46949)) := fdivD_i (by omega) (by omega)
      refine ⟨_, _, rfl, .inl ?_, (num * 45742 + num / 46949 + 29 * x + 11) % 2147483647, xs ++ [(num * 45742 + num / 46949 + 29 * x + 11) % 2147483647 / 8], some (.int x), by simp [hl], ⟨by omega, by omega, fun w h => ?_⟩, rfl⟩
      · simp [b__law_stream_3, t__law_stream_5, m1, m2, f1, fdivD_i, modD_i, hz]
      · rcases List.mem_append.mp h with h | h
        · exact hw w h
        · rw [List.mem_singleton.mp h]; omega)
  have er : rng1 [.int ((m : Int) + 2)] = .ok ((List.range (m + 2)).map fun (i : Nat) => PyData.int (i : Int)) := rng1_n (m + 2) (by omega)
  refine ⟨xs.drop 2, by simp at hl; simp [hl], fun w h => hp3 w (List.mem_of_mem_drop h), runF_ret ?_⟩
  have es : slD (.list (xs.map .int)) (some 2) none = .ok (.list ((xs.drop 2).map .int)) := by
    rw [slD_l, cutD_map, cutG_pn (by decide)]; rfl
  simp -implicitDefEqProofs [t__law_stream_5, t__law_stream_6, t__law_stream_3, t__law_stream_2, m__law_stream, modD_i, er, eloop, es, -rng1_e, -slD_l, -List.map_drop]
/-! ### names -/
def md (j : Nat) : Int := if j = 0 then 26 else 36
def nmL (c : Int) : List Nat := (List.range (1 + c % 12).toNat).map fun (j : Nat) => sgA ((c / ((j : Int) + 2) + 4 * j) % md j)
def nmA (c : Int) : Nat := (c / 12 % (1 + c % 12)).toNat
def nmW (c : Int) (k : Nat) : List Nat := (nmL c).set (nmA c) (sgA ((c / ((nmA c : Int) + 2) + 4 * nmA c + 5 * k) % md (nmA c)))
def nmV (c way : Int) (k : Nat) : VV := if way = 0 then .i (c % 1000000000000000000000000000000 - 500000000000000000000000000000 + k) else .w (nmW c k)
theorem md_pos (j : Nat) : 0 < md j ∧ md j ≤ 36 := by unfold md; split <;> omega
theorem md_ix (j : Nat) : ixD (.list [.int 36, .int 26]) (.int (if j = 0 then 1 else 0)) = .ok (.int (md j)) := by
  by_cases h : j = 0
  · subst h; exact ixD_l (by decide) rfl
  · rw [if_neg h]; unfold md; rw [if_neg h]; exact ixD_l (by decide) rfl
theorem md_let {x : Int} {j : Nat} : sgA (x % md j) ∈ sg ∧ (j = 0 → sgA (x % md j) ∈ lets) ∧ ixD (.str "abcdefghijklmnopqrstuvwxyz0123456789") (.int (x % md j)) = .ok (ch (sgA (x % md j))) := by
  have hp := md_pos j
  have p1 := Int.emod_nonneg x (b := md j) (by omega)
  have p2 := Int.emod_lt_of_pos x (b := md j) (by omega)
  obtain ⟨a, b⟩ := sg_ix (j := x % md j) p1 (by omega)
  exact ⟨a, fun h => sgA_lets p1 (by subst h; simpa [md] using p2), b⟩
theorem nmL_len (c : Int) : (nmL c).length = (1 + c % 12).toNat := by simp [nmL]
theorem nmA_lt (c : Int) : nmA c < (nmL c).length := by
  rw [nmL_len]; unfold nmA
  have := Int.emod_lt_of_pos (c / 12) (b := 1 + c % 12) (by omega)
  have := Int.emod_nonneg (c / 12) (b := 1 + c % 12) (by omega)
  omega
theorem nmW_ok (c : Int) (k : Nat) : wordB (nmW c k) = true := by
  have hl : (nmW c k).length = (1 + c % 12).toNat := by simp [nmW, nmL_len]
  have h0 : ∀ i, ∀ x, (nmW c k)[i]? = some x → x ∈ sg ∧ (i = 0 → x ∈ lets) := fun i x e => by
    unfold nmW at e
    rw [List.getElem?_set] at e
    split at e
    · rename_i h
      split at e
      · cases e
        exact ⟨md_let.1, fun z => md_let.2.1 (by omega)⟩
      · cases e
    · unfold nmL at e
      rw [List.getElem?_map] at e
      obtain ⟨j, ej, rfl⟩ := Option.map_eq_some_iff.mp e
      obtain ⟨hj, ej'⟩ := List.getElem?_eq_some_iff.mp ej
      rw [List.getElem_range] at ej'
      subst ej'
      exact ⟨md_let.1, md_let.2.1⟩
  unfold wordB
  cases q : nmW c k with
  | nil => rw [q] at hl; simp at hl; omega
  | cons a r =>
    have h1 := h0 0 a (by rw [q]; rfl)
    simp only [Bool.and_eq_true, decide_eq_true_eq, List.all_eq_true]
    refine ⟨⟨h1.2 rfl, by rw [← q, hl]; omega⟩, fun x hx => ?_⟩
    obtain ⟨i, hi, e⟩ := List.getElem_of_mem hx
    exact (h0 i x (by rw [q, ← e]; exact List.getElem?_eq_getElem hi)).1
theorem nmV_ok (c way : Int) (k : Nat) : okV (nmV c way k) := by
  unfold nmV
  split
  · trivial
  · exact nmW_ok c k
theorem nmV_inj {c way : Int} {i j : Nat} (hi : i < 6) (hj : j < 6) (h : nmV c way i = nmV c way j) : i = j := by
  unfold nmV at h
  split at h
  · simp only [VV.i.injEq] at h; omega
  · simp only [VV.w.injEq] at h
    have e := congrArg (fun l => l[nmA c]?) h
    simp only [nmW, List.getElem?_set_self (nmA_lt c), Option.some.injEq] at e
    have hp := md_pos (nmA c)
    have p1 := Int.emod_nonneg (c / ((nmA c : Int) + 2) + 4 * nmA c + 5 * i) (b := md (nmA c)) (by omega)
    have p2 := Int.emod_lt_of_pos (c / ((nmA c : Int) + 2) + 4 * nmA c + 5 * i) (b := md (nmA c)) (by omega)
    have p3 := Int.emod_nonneg (c / ((nmA c : Int) + 2) + 4 * nmA c + 5 * j) (b := md (nmA c)) (by omega)
    have p4 := Int.emod_lt_of_pos (c / ((nmA c : Int) + 2) + 4 * nmA c + 5 * j) (b := md (nmA c)) (by omega)
    have e := sgA_inj ⟨p1, by omega⟩ ⟨p3, by omega⟩ e
    generalize c / ((nmA c : Int) + 2) + 4 * nmA c = T at *
    unfold md at e
    split at e <;> omega
theorem run_nm {S4 A5 W6 : D} {c : Int} {k : Nat} {a : Nat} {l : List Nat} (h3 : S4 = .str "abcdefghijklmnopqrstuvwxyz0123456789") (hl : W6 = .list (l.map ch)) (ha : a < l.length) (hl2 : l.length ≤ 12) (hlow : ∀ x ∈ l, x < 128) (hA : A5 = .int a) (way Z j7 : Option D) :
    t__law_named_7 [some (.int c), way, some (.int k), some S4, Z, some A5, some W6, j7] = .ret (.str ⟨(l.set a (sgA ((c / ((a : Int) + 2) + 4 * a + 5 * k) % md a))).toArray⟩) := by
  subst h3 hl hA
  have f1 : fdivD (.int c) (.int ((a : Int) + 2)) = .ok (.int (c / ((a : Int) + 2))) := fdivD_i (by omega) (by omega)
  have m1 : mulD (.int 4) (.int a) = .ok (.int (4 * a)) := mulD_l (by omega) (by omega)
  have m2 : mulD (.int 5) (.int k) = .ok (.int (5 * k)) := mulD_l (by omega) (by omega)
  have m3 := md_ix a
  have m4 : modD (.int (c / ((a : Int) + 2) + 4 * a + 5 * k)) (.int (md a)) = .ok (.int ((c / ((a : Int) + 2) + 4 * a + 5 * k) % md a)) := modD_i (md_pos a).1
  obtain ⟨g1, _, g2⟩ := md_let (x := c / ((a : Int) + 2) + 4 * a + 5 * k) (j := a)
  have mk := @mk2
  have hj := joinS_ch (l := l.set a (sgA ((c / ((a : Int) + 2) + 4 * a + 5 * k) % md a))) (by simp; omega) (set_low hlow (sg_low _ g1))
  generalize sgA ((c / ((a : Int) + 2) + 4 * a + 5 * k) % md a) = G at *
  unfold t__law_named_7
  rw [ySeq_e, sub_ch (l := l) (c := G) (j := (a : Int)) rfl ?_ rfl (by omega) (by omega)]
  · have e : ((a : Int)).toNat = a := by omega
    rw [e]
    generalize hR : PyData.list ((l.set a G).map ch) = RR at *
    simp -implicitDefEqProofs [t__law_named_8, hj]
  · generalize PyData.list (l.map ch) = RR at *
    have ib : ∀ b : Bool, intTF [.bool b] = .ok (.int (if b = true then 1 else 0)) := fun b => by cases b <;> rfl
    simp -implicitDefEqProofs [f1, m1, m2, mk, ib, m3, m4, g2]
theorem named56 (c : Int) {way : Int} (hw : way = 0 ∨ way = 1) {k : Nat} (hk : k < 6) : g__law_named [.int c, .int way, .int k] = .ok (nmV c way k).enc := by
  refine runF_ret ?_
  have p30 : powD (.int 10) (.int 30) = .ok (.int 1000000000000000000000000000000) := powD_i (by omega) (by omega) (by decide)
  have p29 : powD (.int 10) (.int 29) = .ok (.int 100000000000000000000000000000) := powD_i (by omega) (by omega) (by decide)
  have m5 : mulD (.int 5) (.int 100000000000000000000000000000) = .ok (.int 500000000000000000000000000000) := mulD_l (by omega) (by omega)
  have m30 : modD (.int c) (.int 1000000000000000000000000000000) = .ok (.int (c % 1000000000000000000000000000000)) := modD_i (by omega)
  rcases hw with rfl | rfl
  · show _ = Out.ret (.int _)
    simp -implicitDefEqProofs [t__law_named_8, t__law_named_7, t__law_named_6, t__law_named_5, t__law_named_4, t__law_named_3, m__law_named, p30, p29, m5, m30]
  · have e2 := lcL_all (ρ := [some (.int c), some (.int 1), some (.int k), some (.str "abcdefghijklmnopqrstuvwxyz0123456789"), some (.int (1 + c % 12)), some (.int (nmA c)), none, none]) (bnd := bName 7) (ge := e__law_named_6) (fun (i : Nat) => PyData.int (i : Int)) (fun j => ch (sgA ((c / ((j : Int) + 2) + 4 * j) % md j))) (List.range (1 + c % 12).toNat) (fun j hj => ⟨_, rfl, by
      simp only [List.mem_range] at hj
      have f1 : fdivD (.int c) (.int ((j : Int) + 2)) = .ok (.int (c / ((j : Int) + 2))) := fdivD_i (by omega) (by omega)
      have m1 : mulD (.int 4) (.int j) = .ok (.int (4 * j)) := mulD_l (by omega) (by omega)
      have m3 := md_ix j
      have m4 : modD (.int (c / ((j : Int) + 2) + 4 * j)) (.int (md j)) = .ok (.int ((c / ((j : Int) + 2) + 4 * j) % md j)) := modD_i (md_pos j).1
      have g2 := (md_let (x := c / ((j : Int) + 2) + 4 * j) (j := j)).2.2
      have ib : ∀ b : Bool, intTF [.bool b] = .ok (.int (if b = true then 1 else 0)) := fun b => by cases b <;> rfl
      generalize sgA ((c / ((j : Int) + 2) + 4 * j) % md j) = G at *
      simp -implicitDefEqProofs [e__law_named_6, f1, m1, @mk2, ib, m3, m4, g2]⟩)
    have er : rng1 [.int (1 + c % 12)] = .ok ((List.range (1 + c % 12).toNat).map fun (i : Nat) => PyData.int (i : Int)) := by
      have := rng1_n (1 + c % 12).toNat (by omega)
      rwa [show (((1 + c % 12).toNat : Nat) : Int) = 1 + c % 12 by omega] at this
    have e3 : (List.range (1 + c % 12).toNat).map (fun (j : Nat) => ch (sgA ((c / ((j : Int) + 2) + 4 * j) % md j))) = (nmL c).map ch := by simp [nmL]
    rw [e3] at e2
    have hlow : ∀ x ∈ nmL c, x < 128 := fun x hx => by
      obtain ⟨j, _, rfl⟩ := List.mem_map.mp hx
      exact sg_low _ md_let.1
    have fin := run_nm (c := c) (k := k) (a := nmA c) (l := nmL c) rfl rfl (nmA_lt c) (by rw [nmL_len]; omega) hlow rfl (some (.int 1)) (some (.int (1 + c % 12))) none
    have m6 : modD (.int (c / 12)) (.int (1 + c % 12)) = .ok (.int (nmA c)) := by
      rw [modD_i (by omega), nmA, Int.toNat_of_nonneg (Int.emod_nonneg _ (by omega))]
    have hz : ((List.range (1 + c % 12).toNat).map fun (i : Nat) => PyData.int (i : Int)).length ≤ sizeLine := small (by simp; omega)
    show _ = Out.ret (.str ⟨(nmW c k).toArray⟩)
    rw [show (nmW c k) = (nmL c).set (nmA c) (sgA ((c / ((nmA c : Int) + 2) + 4 * nmA c + 5 * k) % md (nmA c))) from rfl]
    generalize PyData.str ⟨((nmL c).set (nmA c) (sgA ((c / ((nmA c : Int) + 2) + 4 * nmA c + 5 * k) % md (nmA c)))).toArray⟩ = WW at *
    generalize ((List.range (1 + c % 12).toNat).map fun (i : Nat) => PyData.int (i : Int)) = RG at *
    generalize (nmL c).map ch = RR at *
    simp -implicitDefEqProofs [m__law_named, t__law_named_3, t__law_named_4, t__law_named_5, t__law_named_6, modD_i, fdivD_i, m6, er, e2, hz, fin, -rng1_e]
/-! ### ladders -/
def szS (s : List Int) (m : Int) : Nat → Int
  | 0 => m
  | j + 1 => 1 + gt s (3 + j) % szS s m j
def atS (s : List Int) (m : Int) (k : Nat) : Nat → Nat
  | 0 => (((k : Int) + gt s 2) % m).toNat
  | j + 1 => (gt s (14 + 7 * j + atS s m k j) % szS s m (j + 1)).toNat
def valS (s : List Int) (m c : Int) (k j : Nat) : VV := nmV (c + gt s 2 * (gt s 6 % 2)) ((gt s 7 + j * (gt s 8 % 2)) % 2) (atS s m k j)
def lineV (s : List Int) (m c : Int) (n k : Nat) : List VV := (List.range n).map (valS s m c k)
theorem szS_b {s : List Int} (hs : Pos s) {m : Int} (hm : 1 ≤ m ∧ m ≤ 6) : ∀ j, 1 ≤ szS s m j ∧ szS s m j ≤ 6
  | 0 => hm
  | j + 1 => by
    obtain ⟨a, b⟩ := szS_b hs hm j
    have p1 := Int.emod_nonneg (gt s (3 + j)) (b := szS s m j) (by omega)
    have p2 := Int.emod_lt_of_pos (gt s (3 + j)) (b := szS s m j) (by omega)
    unfold szS; omega
theorem atS_lt {s : List Int} (hs : Pos s) {m : Int} (hm : 1 ≤ m ∧ m ≤ 6) {k : Nat} : ∀ j, (atS s m k j : Int) < szS s m j
  | 0 => by
    have p1 := Int.emod_nonneg ((k : Int) + gt s 2) (b := m) (by omega)
    have p2 := Int.emod_lt_of_pos ((k : Int) + gt s 2) (b := m) (by omega)
    unfold atS szS; omega
  | j + 1 => by
    obtain ⟨a, b⟩ := szS_b hs hm (j + 1)
    have p1 := Int.emod_nonneg (gt s (14 + 7 * j + atS s m k j)) (b := szS s m (j + 1)) (by omega)
    have p2 := Int.emod_lt_of_pos (gt s (14 + 7 * j + atS s m k j)) (b := szS s m (j + 1)) (by omega)
    rw [atS]; omega
theorem atS_6 {s : List Int} (hs : Pos s) {m : Int} (hm : 1 ≤ m ∧ m ≤ 6) {k : Nat} (j : Nat) : atS s m k j < 6 := by
  have := atS_lt hs hm (k := k) j
  have := szS_b hs hm j
  omega
theorem lineV_ok {s : List Int} {m c : Int} {n k : Nat} (hn : 1 ≤ n ∧ n ≤ 4) : okL (lineV s m c n k) := ⟨by simp [lineV]; omega, fun v hv => by
  obtain ⟨j, hj, rfl⟩ := List.mem_map.mp hv
  exact nmV_ok _ _ _⟩
theorem valS_inj {s : List Int} (hs : Pos s) {m c : Int} (hm : 1 ≤ m ∧ m ≤ 6) {k k' j : Nat} (e : valS s m c k j = valS s m c k' j) : atS s m k j = atS s m k' j :=
  nmV_inj (atS_6 hs hm j) (atS_6 hs hm j) e
theorem lineV_tog {s : List Int} (hs : Pos s) {m c : Int} (hm : 1 ≤ m ∧ m ≤ 6) {n k k' : Nat} (hn : 1 ≤ n ∧ n ≤ 4) (hk : (k : Int) < m) (hk' : (k' : Int) < m) (hne : k ≠ k') : Tog (lineV s m c n k) (lineV s m c n k') := by
  refine ⟨by simp [lineV], fun e => hne ?_, fun i hi e => ?_⟩
  · have h0 : ∀ k, hd (lineV s m c n k) = valS s m c k 0 := fun k => by
      simp [hd, lineV, show 0 < n by omega]
    rw [h0, h0] at e
    have e := valS_inj hs hm e
    unfold atS at e
    have : m = 1 ∨ m = 2 ∨ m = 3 ∨ m = 4 ∨ m = 5 ∨ m = 6 := by omega
    rcases this with rfl | rfl | rfl | rfl | rfl | rfl <;> omega
  · have hi' : i + 1 < n := by simpa [lineV] using hi
    simp only [lineV, List.getElem?_map, List.getElem?_range (show i < n by omega), List.getElem?_range hi', Option.map_some, Option.some.injEq] at e ⊢
    have e := valS_inj hs hm e
    have e2 : atS s m k (i + 1) = atS s m k' (i + 1) := by simp only [atS, e]
    simp only [valS, e2]
theorem rng2_n (a n : Nat) (h : a + n ≤ 1000000) : rng2 [.int a, .int ((a + n : Nat) : Int)] = .ok ((List.range n).map fun (i : Nat) => PyData.int ((a + i : Nat) : Int)) := by
  have : -(2 ^ 62) ≤ (a : Int) ∧ (a : Int) < 2 ^ 62 ∧ -(2 ^ 62) ≤ ((a + n : Nat) : Int) ∧ ((a + n : Nat) : Int) < 2 ^ 62 := by omega
  rw [rng2, if_pos this, rngL]
  rw [show (((a + n : Nat) : Int) - a).toNat = n by omega]
  congr 1
def szL (s : List Int) (m : Int) (n : Nat) : List Int := (List.range n).map (szS s m)
theorem szL_ix {s : List Int} {m : Int} {n j : Nat} (h : j < n) : ixD (.list ((szL s m n).map .int)) (.int (j : Int)) = .ok (.int (szS s m j)) := by
  refine ixD_l (by omega) ?_
  simp [szL, h]
theorem run_sz {C M P x6 x7 x8 x9 : Option D} {S : D} {s : List Int} {m : Int} {i : Nat} {L : List D} (e1 : ixD S (.int ((3 + i : Nat) : Int)) = .ok (.int (gt s (3 + i)))) (e2 : ixD (.list L) (.int (i : Int)) = .ok (.int (szS s m i))) (hp : 1 ≤ szS s m i) (hz : L.length < sizeLine) :
    b__law_ladder_5 [C, some S, M, P, some (.list L), some (.int ((1 + i : Nat) : Int)), x6, x7, x8, x9] = .next [C, some S, M, P, some (.list (L ++ [.int (szS s m (i + 1))])), some (.int ((1 + i : Nat) : Int)), x6, x7, x8, x9] := by
  have a1 : (2 : Int) + ((1 + i : Nat) : Int) = ((3 + i : Nat) : Int) := by omega
  have a2 : ((1 + i : Nat) : Int) - 1 = (i : Int) := by omega
  have m1 : modD (.int (gt s (3 + i))) (.int (szS s m i)) = .ok (.int (gt s (3 + i) % szS s m i)) := modD_i (by omega)
  rw [szS]
  generalize ((1 + i : Nat) : Int) = J1 at *
  generalize ((3 + i : Nat) : Int) = J3 at *
  simp -implicitDefEqProofs [b__law_ladder_5, a1, a2, e1, e2, m1, hz]
theorem sizes_run {C M P : Option D} {s : List Int} (hl : s.length = 40) (hs : Pos s) {m : Int} (hm : 1 ≤ m ∧ m ≤ 6) {n : Nat} (hn : n ≤ 3) : ∃ y, forL (bName 5) b__law_ladder_5 ((List.range n).map fun (i : Nat) => PyData.int ((1 + i : Nat) : Int)) [C, some (.list (s.map .int)), M, P, some (.list [.int m]), none, none, none, none, none] =
    .next [C, some (.list (s.map .int)), M, P, some (.list ((szL s m (n + 1)).map .int)), y, none, none, none, none] := by
  obtain ⟨ρ2, eloop, y, rfl⟩ := forL_ix (bnd := bName 5) (body := b__law_ladder_5) (fun (i : Nat) => PyData.int ((1 + i : Nat) : Int)) (fun i ρ => ∃ y, ρ = [C, some (.list (s.map .int)), M, P, some (.list ((szL s m (i + 1)).map .int)), y, none, none, none, none])
    (List.range n) [C, some (.list (s.map .int)), M, P, some (.list [.int m]), none, none, none, none, none] ⟨none, rfl⟩ (fun i x ρ hx ⟨y, e⟩ => by
      subst e
      obtain ⟨hi, ej⟩ := List.getElem?_eq_some_iff.mp hx
      rw [List.getElem_range] at ej
      subst ej
      simp only [List.length_range] at hi
      have r := run_sz (C := C) (M := M) (P := P) (x6 := none) (x7 := none) (x8 := none) (x9 := none) (gt_ix (s := s) (i := 3 + i) (by omega)) (szL_ix (s := s) (m := m) (n := i + 1) (j := i) (by omega)) (szS_b hs hm i).1 (smallT (by simp [szL]; omega))
      refine ⟨_, _, rfl, .inl r, some (.int ((1 + i : Nat) : Int)), ?_⟩
      simp only [szL]
      rw [show List.range (i + 1 + 1) = List.range (i + 1) ++ [i + 1] from List.range_succ, List.map_append, List.map_append]; rfl)
  simp only [List.length_range] at eloop
  exact ⟨y, eloop⟩
theorem run_tail {c : Int} {M P Z L6 K : Option D} {S V : D} {Ln : List D} {j a : Nat} {w2 w6 w7 w8 : Int} (e2 : ixD S (.int 2) = .ok (.int w2)) (e6 : ixD S (.int 6) = .ok (.int w6)) (e7 : ixD S (.int 7) = .ok (.int w7)) (e8 : ixD S (.int 8) = .ok (.int w8))
    (ev : g__law_named [.int (c + w2 * (w6 % 2)), .int ((w7 + j * (w8 % 2)) % 2), .int a] = .ok V) (hz : Ln.length < sizeLine) :
    t__law_ladder_14 [some (.int c), some S, M, P, Z, some (.int (j : Int)), L6, K, some (.list Ln), some (.int (a : Int))] = .next [some (.int c), some S, M, P, Z, some (.int (j : Int)), L6, K, some (.list (Ln ++ [V])), some (.int (a : Int))] := by
  have m1 : mulD (.int w2) (.int (w6 % 2)) = .ok (.int (w2 * (w6 % 2))) := mulD_r (by omega) (by omega)
  have m2 : mulD (.int (j : Int)) (.int (w8 % 2)) = .ok (.int (j * (w8 % 2))) := mulD_r (by omega) (by omega)
  simp -implicitDefEqProofs [t__law_ladder_14, e2, e6, e7, e8, modD_i, m1, m2, ev, hz]
theorem run_at0 {c : Int} {M P Z L6 K LN : Option D} {S : D} {a : Nat} {o : Out} (tail : t__law_ladder_14 [some (.int c), some S, M, P, Z, some (.int ((0 : Nat) : Int)), L6, K, LN, some (.int (a : Int))] = o) :
    b__law_ladder_11 [some (.int c), some S, M, P, Z, some (.int ((0 : Nat) : Int)), L6, K, LN, some (.int (a : Int))] = o := by
  have g0 : gtD (.int ((0 : Nat) : Int)) (.int 0) = .ok (.bool false) := by rw [gtD_ii]; rfl
  simp -implicitDefEqProofs only [b__law_ladder_11, ySeq_e, yIf_e, xT_e, x2_e, xVar_e, xC_e, List.getElem?_cons_succ, List.getElem?_cons_zero, R.bind_ok, g0, asB_e, yB_ok, Bool.false_eq_true, if_false, yNil_e, Out.seq_next, tail]
theorem run_at1 {c w z : Int} {M P L6 K LN : Option D} {S Z : D} {i a a' : Nat} {o : Out} (e1 : ixD S (.int ((14 + 7 * i + a : Nat) : Int)) = .ok (.int w)) (e2 : ixD Z (.int ((i + 1 : Nat) : Int)) = .ok (.int z)) (m5 : modD (.int w) (.int z) = .ok (.int (a' : Int)))
    (tail : t__law_ladder_14 [some (.int c), some S, M, P, some Z, some (.int ((i + 1 : Nat) : Int)), L6, K, LN, some (.int (a' : Int))] = o) :
    b__law_ladder_11 [some (.int c), some S, M, P, some Z, some (.int ((i + 1 : Nat) : Int)), L6, K, LN, some (.int (a : Int))] = o := by
  have g0 : gtD (.int ((i + 1 : Nat) : Int)) (.int 0) = .ok (.bool true) := by rw [gtD_ii, decide_eq_true (by omega)]
  have m1 : mulD (.int 7) (.int ((i + 1 : Nat) : Int)) = .ok (.int (7 * ((i + 1 : Nat) : Int))) := mulD_l (by omega) (by omega)
  have a1 : (7 : Int) + 7 * ((i + 1 : Nat) : Int) + (a : Int) = ((14 + 7 * i + a : Nat) : Int) := by omega
  generalize ((i + 1 : Nat) : Int) = J at *
  generalize ((14 + 7 * i + a : Nat) : Int) = J2 at *
  simp -implicitDefEqProofs [b__law_ladder_11, g0, m1, a1, e1, e2, m5, tail, -gtD_ii]
theorem line_run {c : Int} {M L6 K y5 : Option D} {s : List Int} (hl : s.length = 40) (hs : Pos s) {m : Int} (hm : 1 ≤ m ∧ m ≤ 6) {n k : Nat} (hn : 1 ≤ n ∧ n ≤ 4) :
    ∃ (y5' : Option D) (a : Int), forL (bName 5) b__law_ladder_11 ((List.range n).map fun (i : Nat) => PyData.int (i : Int)) [some (.int c), some (.list (s.map .int)), M, some (.int n), some (.list ((szL s m n).map .int)), y5, L6, K, some (.list []), some (.int (atS s m k 0))] =
      .next [some (.int c), some (.list (s.map .int)), M, some (.int n), some (.list ((szL s m n).map .int)), y5', L6, K, some (.list ((lineV s m c n k).map VV.enc)), some (.int a)] := by
  obtain ⟨ρ2, eloop, y, rfl⟩ := forL_ix (bnd := bName 5) (body := b__law_ladder_11) (fun (i : Nat) => PyData.int (i : Int)) (fun i ρ => ∃ y, ρ = [some (.int c), some (.list (s.map .int)), M, some (.int n), some (.list ((szL s m n).map .int)), y, L6, K, some (.list ((lineV s m c i k).map VV.enc)), some (.int (atS s m k (i - 1)))])
    (List.range n) [some (.int c), some (.list (s.map .int)), M, some (.int n), some (.list ((szL s m n).map .int)), y5, L6, K, some (.list []), some (.int (atS s m k 0))] ⟨y5, rfl⟩ (fun i x ρ hx ⟨y, e⟩ => by
      subst e
      obtain ⟨hi, ej⟩ := List.getElem?_eq_some_iff.mp hx
      rw [List.getElem_range] at ej
      subst ej
      simp only [List.length_range] at hi
      have e2 := gt_ix (s := s) (i := 2) (by omega)
      have e6 := gt_ix (s := s) (i := 6) (by omega)
      have e7 := gt_ix (s := s) (i := 7) (by omega)
      have e8 := gt_ix (s := s) (i := 8) (by omega)
      have ha := atS_6 hs hm (k := k) i
      have ev := named56 (c + gt s 2 * (gt s 6 % 2)) (way := (gt s 7 + i * (gt s 8 % 2)) % 2) (by omega) ha
      have hz2 : ((lineV s m c i k).map VV.enc).length < sizeLine := smallT (by simp [lineV]; omega)
      have tail := run_tail (M := M) (P := some (.int n)) (Z := some (.list ((szL s m n).map .int))) (L6 := L6) (K := K) (a := atS s m k i) e2 e6 e7 e8 ev hz2
      have hsnoc : (lineV s m c (i + 1) k).map VV.enc = (lineV s m c i k).map VV.enc ++ [(valS s m c k i).enc] := by
        rw [lineV, List.range_succ, List.map_append, List.map_append]; rfl
      cases i with
      | zero => exact ⟨_, _, rfl, .inl (run_at0 tail), _, by rw [hsnoc]; rfl⟩
      | succ i =>
        have ha' := atS_6 hs hm (k := k) i
        have e1 := gt_ix (s := s) (i := 14 + 7 * i + atS s m k i) (by omega)
        have ez := szL_ix (s := s) (m := m) (n := n) (j := i + 1) hi
        have hb := szS_b hs hm (i + 1)
        have m5 : modD (.int (gt s (14 + 7 * i + atS s m k i))) (.int (szS s m (i + 1))) = .ok (.int (atS s m k (i + 1))) := by
          rw [modD_i (by omega), atS, Int.toNat_of_nonneg (Int.emod_nonneg _ (by omega))]
        exact ⟨_, _, rfl, .inl (run_at1 e1 ez m5 tail), _, by rw [hsnoc]; rfl⟩)
  simp only [List.length_range] at eloop
  exact ⟨y, _, eloop⟩
theorem run_row {C S M P Z : D} {Ls R Ln : List D} {w2 m a0 a : Int} {k : Nat} {x5 x8 x9 x5' : Option D} (hM : M = .int m) (e2 : ixD S (.int 2) = .ok (.int w2)) (hm : modD (.int ((k : Int) + w2)) (.int m) = .ok (.int a0)) (er : rng1 [P] = .ok R) (hz : Ls.length < sizeLine)
    (eloop : forL (bName 5) b__law_ladder_11 R [some C, some S, some M, some P, some Z, x5, some (.list Ls), some (.int (k : Int)), some (.list []), some (.int a0)] = .next [some C, some S, some M, some P, some Z, x5', some (.list Ls), some (.int (k : Int)), some (.list Ln), some (.int a)]) :
    b__law_ladder_8 [some C, some S, some M, some P, some Z, x5, some (.list Ls), some (.int (k : Int)), x8, x9] = .next [some C, some S, some M, some P, some Z, x5', some (.list (Ls ++ [.tuple Ln])), some (.int (k : Int)), some (.list Ln), some (.int a)] := by
  subst hM
  simp -implicitDefEqProofs [b__law_ladder_8, t__law_ladder_10, t__law_ladder_11, t__law_ladder_15, e2, hm, er, eloop, hz, -rng1_e]
theorem plc_ix (w : Int) (hw : 0 ≤ w) : ∃ n : Nat, (1 ≤ n ∧ n ≤ 4) ∧ ixD (.list [.int 2, .int 1, .int 3, .int 2, .int 3, .int 4, .int 2, .int 3]) (.int (w % 8)) = .ok (.int (n : Int)) := by
  have : w % 8 = 0 ∨ w % 8 = 1 ∨ w % 8 = 2 ∨ w % 8 = 3 ∨ w % 8 = 4 ∨ w % 8 = 5 ∨ w % 8 = 6 ∨ w % 8 = 7 := by omega
  rcases this with e | e | e | e | e | e | e | e <;> rw [e]
  · exact ⟨2, by decide, ixD_l (by decide) rfl⟩
  · exact ⟨1, by decide, ixD_l (by decide) rfl⟩
  · exact ⟨3, by decide, ixD_l (by decide) rfl⟩
  · exact ⟨2, by decide, ixD_l (by decide) rfl⟩
  · exact ⟨3, by decide, ixD_l (by decide) rfl⟩
  · exact ⟨4, by decide, ixD_l (by decide) rfl⟩
  · exact ⟨2, by decide, ixD_l (by decide) rfl⟩
  · exact ⟨3, by decide, ixD_l (by decide) rfl⟩
theorem mkLst_8 {a b c d e f g h : D} : mkLst [a, b, c, d, e, f, g, h] = .ok (.list [a, b, c, d, e, f, g, h]) := mkLst_ok (small (by simp))
theorem run_lad {C S P : D} {Q R W A : List D} {w0 w1 : Int} {x5 x7 x8 x9 y5 : Option D} (es : g__law_stream [C, .int 40] = .ok S) (e0 : ixD S (.int 0) = .ok (.int w0)) (e1 : ixD S (.int 1) = .ok (.int w1)) (ep : ixD (.list [.int 2, .int 1, .int 3, .int 2, .int 3, .int 4, .int 2, .int 3]) (.int (w1 % 8)) = .ok P) (eq : rng2 [.int 1, P] = .ok Q)
    (l1 : forL (bName 5) b__law_ladder_5 Q [some C, some S, some (.int (1 + w0 % 6)), some P, some (.list [.int (1 + w0 % 6)]), none, none, none, none, none] = .next [some C, some S, some (.int (1 + w0 % 6)), some P, some (.list W), y5, none, none, none, none]) (er : rng1 [.int (1 + w0 % 6)] = .ok R)
    (l2 : forL (bName 7) b__law_ladder_8 R [some C, some S, some (.int (1 + w0 % 6)), some P, some (.list W), y5, some (.list []), none, none, none] = .next [some C, some S, some (.int (1 + w0 % 6)), some P, some (.list W), x5, some (.list A), x7, x8, x9]) :
    m__law_ladder [some C, none, none, none, none, none, none, none, none, none] = .ret (.list A) := by
  simp -implicitDefEqProofs [m__law_ladder, t__law_ladder_2, t__law_ladder_3, t__law_ladder_4, t__law_ladder_5, t__law_ladder_7, t__law_ladder_8, t__law_ladder_16, es, e0, e1, mkLst_8, modD_i, ep, eq, l1, er, l2, -rng1_e]
def smallV : VV → Prop
  | .i z => -10000000000000000000000000000000 < z ∧ z < 10000000000000000000000000000000
  | _ => True
theorem nmV_small (c way : Int) {k : Nat} (hk : k < 6) : smallV (nmV c way k) := by
  unfold nmV
  split
  · show _ ∧ _; omega
  · trivial
/-- a ladder: one to six lines of one length -/
structure Lad (ls : List (List VV)) (n : Nat) : Prop where
  hm : 1 ≤ ls.length ∧ ls.length ≤ 6
  hn : 1 ≤ n ∧ n ≤ 4
  hl : ∀ l ∈ ls, l.length = n ∧ okL l
  hp : ls.Pairwise fun a b => Tog b a
  sm : ∀ l ∈ ls, ∀ v ∈ l, smallV v
theorem ladder56 (c : Int) : ∃ ls n, Lad ls n ∧ g__law_ladder [.int c] = .ok (encL ls) := by
  obtain ⟨s, hl, hs, es⟩ := stream56 c 40 (by omega)
  have e0 : ixD (.list (s.map .int)) (.int 0) = .ok (.int (gt s 0)) := gt_ix (i := 0) (by omega)
  have e1 : ixD (.list (s.map .int)) (.int 1) = .ok (.int (gt s 1)) := gt_ix (i := 1) (by omega)
  have e2 : ixD (.list (s.map .int)) (.int 2) = .ok (.int (gt s 2)) := gt_ix (i := 2) (by omega)
  have p0 := gt_pos hs 0
  have p1 := gt_pos hs 1
  obtain ⟨n, hn, en⟩ := plc_ix (gt s 1) p1.1
  have hm : 1 ≤ 1 + gt s 0 % 6 ∧ 1 + gt s 0 % 6 ≤ 6 := by omega
  obtain ⟨y5, l1⟩ := sizes_run (C := some (.int c)) (M := some (.int (1 + gt s 0 % 6))) (P := some (.int n)) hl hs hm (n := n - 1) (by omega)
  rw [show n - 1 + 1 = n by omega] at l1
  have eq : rng2 [.int 1, .int (n : Int)] = .ok ((List.range (n - 1)).map fun (i : Nat) => PyData.int ((1 + i : Nat) : Int)) := by
    have := rng2_n 1 (n - 1) (by omega)
    rwa [show ((1 + (n - 1) : Nat) : Int) = (n : Int) by omega] at this
  have hM : (1 + gt s 0 % 6) = (((1 + gt s 0 % 6).toNat : Nat) : Int) := by omega
  have er : rng1 [.int (1 + gt s 0 % 6)] = .ok ((List.range (1 + gt s 0 % 6).toNat).map fun (i : Nat) => PyData.int (i : Int)) := by
    have := rng1_n (1 + gt s 0 % 6).toNat (by omega)
    rwa [← hM] at this
  generalize hg : 1 + gt s 0 % 6 = m at *
  obtain ⟨ρ2, eloop, x5, x7, x8, x9, rfl⟩ := forL_ix (bnd := bName 7) (body := b__law_ladder_8) (fun (i : Nat) => PyData.int (i : Int)) (fun i ρ => ∃ (x5 x7 x8 x9 : Option D),
      ρ = [some (.int c), some (.list (s.map .int)), some (.int m), some (.int n), some (.list ((szL s m n).map .int)), x5, some (.list (((List.range i).map (lineV s m c n)).map encT)), x7, x8, x9])
    (List.range m.toNat) [some (.int c), some (.list (s.map .int)), some (.int m), some (.int n), some (.list ((szL s m n).map .int)), y5, some (.list []), none, none, none] ⟨y5, none, none, none, rfl⟩ (fun i x ρ hx ⟨x5, x7, x8, x9, e⟩ => by
      subst e
      obtain ⟨hi, ej⟩ := List.getElem?_eq_some_iff.mp hx
      rw [List.getElem_range] at ej
      subst ej
      simp only [List.length_range] at hi
      obtain ⟨y5', a, el⟩ := line_run (c := c) (M := some (.int m)) (L6 := some (.list (((List.range i).map (lineV s m c n)).map encT))) (K := some (.int i)) (y5 := x5) hl hs hm (n := n) (k := i) hn
      have m1 : modD (.int ((i : Int) + gt s 2)) (.int m) = .ok (.int (atS s m i 0)) := by
        rw [modD_i (by omega), atS, Int.toNat_of_nonneg (Int.emod_nonneg _ (by omega))]
      have r := run_row (x8 := x8) (x9 := x9) rfl e2 m1 (rng1_n n (by omega)) (smallT (by simp; omega)) el
      refine ⟨_, _, rfl, .inl r, y5', some (.int i), some (.list ((lineV s m c n i).map VV.enc)), some (.int a), ?_⟩
      rw [List.range_succ, List.map_append, List.map_append]; rfl)
  simp only [List.length_range] at eloop
  refine ⟨(List.range m.toNat).map (lineV s m c n), n, ⟨by simp; omega, hn, fun l hl => ?_, ?_, fun l hl v hv => ?_⟩, runF_ret ?_⟩
  · obtain ⟨k, _, rfl⟩ := List.mem_map.mp hl
    exact ⟨by simp [lineV], lineV_ok hn⟩
  · rw [List.pairwise_map, List.pairwise_iff_getElem]
    intro i j hi hj hij
    simp only [List.length_range] at hi hj
    simp only [List.getElem_range]
    exact lineV_tog hs hm hn (by omega) (by omega) (by omega)
  · obtain ⟨k, _, rfl⟩ := List.mem_map.mp hl
    obtain ⟨j, _, rfl⟩ := List.mem_map.mp hv
    exact nmV_small _ _ (atS_6 hs hm j)
  · subst hg
    exact run_lad es e0 e1 en eq l1 er eloop
theorem Lad.take {ls : List (List VV)} {n : Nat} (h : Lad ls n) (k : Nat) (hk : 1 ≤ k) : Lad (ls.take k) n :=
  ⟨by rw [List.length_take]; have := h.hm; omega, h.hn, fun l hl => h.hl l (List.mem_of_mem_take hl), h.hp.sublist (List.take_sublist _ _), fun l hl => h.sm l (List.mem_of_mem_take hl)⟩
structure Lads (Ls : List (List (List VV))) : Prop where
  hm : 1 ≤ Ls.length ∧ Ls.length ≤ 4
  hl : ∀ ls ∈ Ls, ∃ n, Lad ls n
theorem many_ix (w : Int) : ∃ n : Nat, (1 ≤ n ∧ n ≤ 4) ∧ ixD (.list [.int 2, .int 1, .int 2, .int 3, .int 1, .int 2, .int 3, .int 4]) (.int (w % 8)) = .ok (.int (n : Int)) := by
  have : w % 8 = 0 ∨ w % 8 = 1 ∨ w % 8 = 2 ∨ w % 8 = 3 ∨ w % 8 = 4 ∨ w % 8 = 5 ∨ w % 8 = 6 ∨ w % 8 = 7 := by omega
  rcases this with e | e | e | e | e | e | e | e <;> rw [e]
  · exact ⟨2, by decide, ixD_l (by decide) rfl⟩
  · exact ⟨1, by decide, ixD_l (by decide) rfl⟩
  · exact ⟨2, by decide, ixD_l (by decide) rfl⟩
  · exact ⟨3, by decide, ixD_l (by decide) rfl⟩
  · exact ⟨1, by decide, ixD_l (by decide) rfl⟩
  · exact ⟨2, by decide, ixD_l (by decide) rfl⟩
  · exact ⟨3, by decide, ixD_l (by decide) rfl⟩
  · exact ⟨4, by decide, ixD_l (by decide) rfl⟩
theorem run_lads {S : D} {n : Nat} {A B R : List D} {c0 : Int} (e0 : g__law_cell_at [S, .int 0] = .ok (.int c0)) (en : ixD (.list [.int 2, .int 1, .int 2, .int 3, .int 1, .int 2, .int 3, .int 4]) (.int (c0 % 8)) = .ok (.int (n : Int))) (er : rng1 [.int (n : Int)] = .ok R) (hz : R.length ≤ sizeLine)
    (el : lcL (bName 3) tYesX e__law_ladders_2 [some S, some (.int (n : Int)), none, none, none] R = .ok A) (hz2 : A.length ≤ sizeLine) (e4 : n = 4 → lcL (bName 4) tYesX e__law_ladders_4 [some S, some (.int (n : Int)), some (.list A), none, none] A = .ok B) (hB : n ≠ 4 → B = A) :
    m__law_ladders [some S, none, none, none, none] = .ret (.list B) := by
  by_cases h : n = 4
  · have e4 := e4 h
    have eq4 : eqD (.int (n : Int)) (.int 4) = .ok (.bool true) := by rw [eqD_ii, decide_eq_true (by omega)]
    generalize ((n : Nat) : Int) = N at *
    simp -implicitDefEqProofs [m__law_ladders, t__law_ladders_2, t__law_ladders_3, t__law_ladders_5, e0, mkLst_8, modD_i, en, er, hz, el, eq4, hz2, e4, -rng1_e, -eqD_ii]
  · have eq4 : eqD (.int (n : Int)) (.int 4) = .ok (.bool false) := by rw [eqD_ii, decide_eq_false (by omega)]
    rw [hB h]
    generalize ((n : Nat) : Int) = N at *
    simp -implicitDefEqProofs [m__law_ladders, t__law_ladders_2, t__law_ladders_3, t__law_ladders_5, e0, mkLst_8, modD_i, en, er, hz, el, eq4, hz2, -rng1_e, -eqD_ii]
theorem ladders56 (ns : List Int) : ∃ Ls, Lads Ls ∧ g__law_ladders [.list (ns.map .int)] = .ok (.list (Ls.map encL)) := by
  have e0 := cell_at ns 0 (by omega)
  obtain ⟨n, hn, en⟩ := many_ix (cell ns (0 : Int).toNat)
  have hlad : ∀ k : Nat, ∃ p : List (List VV) × Nat, Lad p.1 p.2 ∧ g__law_ladder [.int (cell ns (1 + (k : Int)).toNat + 1000 * k)] = .ok (encL p.1) := fun k => by
    obtain ⟨ls, m, h1, h2⟩ := ladder56 (cell ns (1 + (k : Int)).toNat + 1000 * k)
    exact ⟨(ls, m), h1, h2⟩
  obtain ⟨F, hF⟩ := Classical.skolem.mp hlad
  have hF1 := fun k => (hF k).1
  have hF2 := fun k => (hF k).2
  have er := rng1_n n (by omega)
  have el := lcL_all (ρ := [some (.list (ns.map .int)), some (.int (n : Int)), none, none, none]) (bnd := bName 3) (ge := e__law_ladders_2) (fun (i : Nat) => PyData.int (i : Int)) (fun k => encL (F k).1) (List.range n) (fun k hk => ⟨_, rfl, by
    simp only [List.mem_range] at hk
    have ec := cell_at ns (1 + (k : Int)) (by omega)
    have m1 : mulD (.int 1000) (.int (k : Int)) = .ok (.int (1000 * k)) := mulD_l (by omega) (by omega)
    have h2 := hF2 k
    generalize PyData.list (ns.map .int) = S at *
    simp -implicitDefEqProofs [e__law_ladders_2, ec, m1, h2]⟩)
  have e4 := lcL_all (ρ := [some (.list (ns.map .int)), some (.int (n : Int)), some (.list ((List.range n).map fun k => encL (F k).1)), none, none]) (bnd := bName 4) (ge := e__law_ladders_4) (fun (k : Nat) => encL (F k).1) (fun k => encL ((F k).1.take 3)) (List.range n) (fun k hk => ⟨_, rfl, by
    have : slD (encL (F k).1) none (some 3) = .ok (encL ((F k).1.take 3)) := by
      unfold encL
      rw [slD_l, cutD_map, cutG_np (by decide)]; rfl
    simp -implicitDefEqProofs [e__law_ladders_4, this]⟩)
  refine ⟨if n = 4 then (List.range n).map fun k => (F k).1.take 3 else (List.range n).map fun k => (F k).1, ⟨by split <;> simp <;> omega, fun ls hls => ?_⟩, runF_ret ?_⟩
  · split at hls
    · obtain ⟨k, _, rfl⟩ := List.mem_map.mp hls
      exact ⟨_, (hF1 k).take 3 (by omega)⟩
    · obtain ⟨k, _, rfl⟩ := List.mem_map.mp hls
      exact ⟨_, hF1 k⟩
  · have hB : (if n = 4 then (List.range n).map fun k => (F k).1.take 3 else (List.range n).map fun k => (F k).1).map encL = (if n = 4 then (List.range n).map fun k => encL ((F k).1.take 3) else (List.range n).map fun k => encL (F k).1) := by
      split <;> rw [List.map_map] <;> rfl
    rw [hB]
    exact run_lads e0 en er (small (by simp; omega)) el (small (by simp; omega)) (fun h => by rw [if_pos h]; exact e4) (fun h => by rw [if_neg h])

/-! ### is_ladder; what a new book tells -/
theorem is_line_non {d : D} (h : isiF "tuple" d = .ok (.bool false)) : g_is_line [d] = .ok (.bool false) := by refine runF_ret ?_; simp -implicitDefEqProofs [m_is_line, h]
open Classical in
theorem is_lad {ds : List D} (h : ∀ d ∈ ds, LineC d) (hz : ds.length ≤ 60) : g_is_ladder [.list ds] = .ok (.bool (decide (1 ≤ ds.length ∧ ds.length ≤ 40) && decide (Good ds))) := by
  refine runF_ret ?_
  have e := are_lines_eq h (by omega)
  by_cases h1 : 1 ≤ ds.length
  · have l1 : leD (.int 1) (.int ds.length) = .ok (.bool true) := by rw [leD_ii]; simp; omega
    by_cases h4 : ds.length ≤ 40
    · have l2 : leD (.int ds.length) (.int 40) = .ok (.bool true) := by rw [leD_ii]; simp; omega
      rw [decide_eq_true (show 1 ≤ ds.length ∧ ds.length ≤ 40 from ⟨h1, h4⟩)]
      simp -implicitDefEqProofs [m_is_ladder, t_is_ladder_3, isiD, l1, l2, e, -leD_ii]
    · have l2 : leD (.int ds.length) (.int 40) = .ok (.bool false) := by rw [leD_ii]; simp; omega
      rw [decide_eq_false (show ¬ (1 ≤ ds.length ∧ ds.length ≤ 40) from fun z => h4 z.2)]
      simp -implicitDefEqProofs [m_is_ladder, isiD, l1, l2, -leD_ii]
  · have l1 : leD (.int 1) (.int ds.length) = .ok (.bool false) := by rw [leD_ii]; simp; omega
    rw [decide_eq_false (show ¬ (1 ≤ ds.length ∧ ds.length ≤ 40) from fun z => h1 z.1)]
    simp -implicitDefEqProofs [m_is_ladder, isiD, l1, -leD_ii]
theorem not_lad_non {d : D} (h : isiF "list" d = .ok (.bool false)) : g_is_ladder [d] = .ok (.bool false) := by refine runF_ret ?_; simp -implicitDefEqProofs [m_is_ladder, h]
theorem not_lad_len {ds : List D} (h : ¬ (1 ≤ ds.length ∧ ds.length ≤ 40)) : g_is_ladder [.list ds] = .ok (.bool false) := by
  refine runF_ret ?_
  by_cases h1 : 1 ≤ ds.length
  · have l1 : leD (.int 1) (.int ds.length) = .ok (.bool true) := by rw [leD_ii]; simp; omega
    have l2 : leD (.int ds.length) (.int 40) = .ok (.bool false) := by rw [leD_ii]; simp; omega
    simp -implicitDefEqProofs [m_is_ladder, isiD, l1, l2, -leD_ii]
  · have l1 : leD (.int 1) (.int ds.length) = .ok (.bool false) := by rw [leD_ii]; simp; omega
    simp -implicitDefEqProofs [m_is_ladder, isiD, l1, -leD_ii]
open Classical in
theorem not_lad_good {ds : List D} (h : ∀ d ∈ ds, LineC d) (hz : ds.length ≤ 60) (hg : ¬ Good ds) : g_is_ladder [.list ds] = .ok (.bool false) := by
  rw [is_lad h hz, decide_eq_false hg, Bool.and_false]
theorem Lad.lc {ls : List (List VV)} {n : Nat} (h : Lad ls n) : ∀ d ∈ ls.map encT, LineC d := fun d hd => by
  obtain ⟨l, hl, rfl⟩ := List.mem_map.mp hd
  exact .inl ⟨l, (h.hl l hl).2, rfl⟩
open Classical in
theorem lad_true {ls : List (List VV)} {n : Nat} (h : Lad ls n) : g_is_ladder [encL ls] = .ok (.bool true) := by
  have hm := h.hm
  unfold encL
  rw [is_lad h.lc (by simp; omega), decide_eq_true (by simp; omega), decide_eq_true ⟨ls, rfl, fun l hl => (h.hl l hl).2, h.hp⟩]; rfl
/-! ### Book(..) looks at its thing -/
theorem i1_list {ds : List D} (hz : ds.length ≤ 1000) : h_i1 [none, some (.list ds), none] = .ok (!decide (1 ≤ ds.length ∧ ds.length ≤ 4)) := by
  by_cases h1 : 1 ≤ ds.length
  · have l1 : leD (.int 1) (.int ds.length) = .ok (.bool true) := by rw [leD_ii]; simp; omega
    by_cases h4 : ds.length ≤ 4
    · have l2 : leD (.int ds.length) (.int 4) = .ok (.bool true) := by rw [leD_ii]; simp; omega
      rw [decide_eq_true ⟨h1, h4⟩]
      simp -implicitDefEqProofs [h_i1, isiD, l1, l2, -leD_ii]
    · have l2 : leD (.int ds.length) (.int 4) = .ok (.bool false) := by rw [leD_ii]; simp; omega
      rw [decide_eq_false (fun z => h4 z.2)]
      simp -implicitDefEqProofs [h_i1, isiD, l1, l2, -leD_ii]
  · have l1 : leD (.int 1) (.int ds.length) = .ok (.bool false) := by rw [leD_ii]; simp; omega
    rw [decide_eq_false (fun z => h1 z.1)]
    simp -implicitDefEqProofs [h_i1, isiD, l1, -leD_ii]
theorem i1_non {d : D} (h : isiF "list" d = .ok (.bool false)) : h_i1 [none, some d, none] = .ok true := by
  simp -implicitDefEqProofs [h_i1, h]
theorem i2_list {ds : List D} (f : D → Bool) (hz : ds.length ≤ 1000) (h : ∀ d ∈ ds, g_is_ladder [d] = .ok (.bool (f d))) : h_i2 [none, some (.list ds), none] = .ok (!ds.all f) := by
  have e := lcL_all (ρ := [none, some (.list ds), none]) (bnd := bName 2) (ge := e_Book___init___3_i2) (fun d : D => d) (fun d => .bool (f d)) ds (fun d hd => ⟨_, rfl, by simp -implicitDefEqProofs [e_Book___init___3_i2, h d hd]⟩)
  rw [List.map_id'] at e
  have e3 : allF [.list (ds.map fun d => PyData.bool (f d))] = .ok (.bool (ds.all f)) := by
    have := allF_e (bs := ds.map f)
    rw [List.map_map] at this
    rw [show (ds.map fun d => PyData.bool (f d)) = ds.map (PyData.bool ∘ f) from rfl, this, List.all_map]
    rfl
  have hz' : ds.length ≤ sizeLine := small (by omega)
  simp -implicitDefEqProofs [h_i2, e, hz', e3]
theorem bad_lad {ds : List D} (hz : ds.length ≤ 1000) (hb : ∀ d ∈ ds, ∃ b : Bool, g_is_ladder [d] = .ok (.bool b)) {d : D} (hd : d ∈ ds) (hf : g_is_ladder [d] = .ok (.bool false)) : badI (.list ds) := by
  by_cases h : 1 ≤ ds.length ∧ ds.length ≤ 4
  · refine .inr ⟨by rw [i1_list hz, decide_eq_true h]; rfl, ?_⟩
    have f1 : ∀ d ∈ ds, g_is_ladder [d] = .ok (.bool (match g_is_ladder [d] with | .ok (.bool b) => b | _ => false)) := fun d hd => by
      obtain ⟨b, e⟩ := hb d hd
      rw [e]
    rw [i2_list _ hz f1]
    have : (ds.all fun d => match g_is_ladder [d] with | .ok (.bool b) => b | _ => false) = false := by
      rw [List.all_eq_false]
      exact ⟨d, hd, by rw [hf]; simp⟩
    rw [this]; rfl
  · exact .inl (by rw [i1_list hz, decide_eq_false h]; rfl)
theorem good_lads {Ls : List (List (List VV))} (h : Lads Ls) : goodI (.list (Ls.map encL)) := by
  have hm := h.hm
  refine ⟨by rw [i1_list (by simp; omega), decide_eq_true (by simp; omega)]; rfl, ?_⟩
  rw [i2_list (fun _ => true) (by simp; omega) fun d hd => by
    obtain ⟨ls, hl, rfl⟩ := List.mem_map.mp hd
    obtain ⟨n, hn⟩ := h.hl ls hl
    exact lad_true hn]
  have : (Ls.map encL).all (fun _ => true) = true := by simp
  rw [this]; rfl
theorem finest56 {ds : List D} (hz : ds.length ≤ 1000) : g_finest [.list ds] = .ok (.tuple (List.replicate ds.length (.int 0))) := by
  have e := lcL_all (ρ := [some (.list ds), none]) (bnd := bName 1) (ge := e_finest_1) (fun d : D => d) (fun d => .int 0) ds (fun d hd => ⟨_, rfl, rfl⟩)
  rw [List.map_id', List.map_const'] at e
  have hz' : ds.length ≤ sizeLine := small (by omega)
  refine runF_ret ?_
  simp -implicitDefEqProofs [m_finest, e, hz']

/-! ### a new book's methods -/
def rS (S : D) : MV.Env := some S :: List.replicate 9 none
def r4 (S d : D) : MV.Env := [some S, none, some d, none, none, none, none, none, none, none]
def r5 (a b : D) : MV.Env := [none, none, none, none, some a, some b, none, none, none, none]
def r6 (d b : D) : MV.Env := [none, some d, some d, none, some (.list []), none, some b, none, none, none]
def r9 (d b : D) : MV.Env := [none, some d, none, none, none, none, some b, none, none, none]
section
variable {L : List (List D)}
theorem fldD_e {c f : Str} {ds : List (D × D)} {d : D} (h : dLook ds f = some d) : fldD c f (.dict ((.bool true, .str c) :: ds)) = .ok d := by
  show (if c = c then (match dLook ds f with | some d => R.ok d | none => .stuck) else .stuck) = _
  rw [if_pos rfl, h]
theorem dLook_y {g : Str} {d : D} {r : List (D × D)} : dLook ((.str g, d) :: r) g = some d := by
  show (if g = g then some d else dLook r g) = _
  rw [if_pos rfl]
theorem dLook_n {f g : Str} {d : D} {r : List (D × D)} (h : ¬ f = g) : dLook ((.str g, d) :: r) f = dLook r f := by
  show (if f = g then some d else dLook r f) = _
  rw [if_neg h]
theorem f_ax : fldD "Book" "axes" (bkD L) = .ok (.list (L.map .list)) := fldD_e dLook_y
theorem f_am : fldD "Book" "amounts" (bkD L) = .ok (.dict []) := fldD_e ((dLook_n fun z => nAM z.symm).trans dLook_y)
theorem f_su : fldD "Book" "sums" (bkD L) = .ok (.dict [(.tuple (List.replicate L.length (.int 0)), .dict [])]) := fldD_e ((dLook_n fun z => nAS z.symm).trans ((dLook_n fun z => nMS z.symm).trans dLook_y))
theorem has_m {m : Str} (h1 : ¬ m = "axes") (h2 : ¬ m = "amounts") (h3 : ¬ m = "sums") : obHas "Book" m (bkD L) = true := by
  have : dLook [((.str "axes" : D), (.list (L.map .list) : D)), (.str "amounts", .dict []), (.str "sums", .dict [(.tuple (List.replicate L.length (.int 0)), .dict [])])] m = none := by
    simp only [dLook, if_neg h1, if_neg h2, if_neg h3]
  show (decide (("Book" : Str) = "Book") && (dLook _ m).isNone) = true
  rw [this]; rfl
theorem new_ladders (hz : L.length ≤ 1000) : g_Book_ladders [bkD L] = .ok (.list (L.map .list)) := by
  have e := lcL_all (ρ := [some (bkD L), none]) (bnd := bName 1) (ge := e_Book_ladders_1) (fun l : List D => .list l) (fun l => .list l) L (fun d hd => ⟨_, rfl, rfl⟩)
  have hz' : (L.map PyData.list).length ≤ sizeLine := small (by simp; omega)
  have hf := f_ax (L := L)
  refine runF_ret ?_
  generalize bkD L = B at *
  generalize L.map PyData.list = LL at *
  simp -implicitDefEqProofs [m_Book_ladders, e, hz', hf]
theorem in_order_0 : g_in_order [.list []] = .ok (.list []) := by
  have e : sortKD g_place_key (.list []) = .ok (.list []) := by
    show okIf true (.list ((([] : List (D × D)).mergeSort _).map _)) = _
    rw [List.mergeSort_nil]; rfl
  refine runF_ret ?_
  simp -implicitDefEqProofs [m_in_order, t_in_order_2, t_in_order_5, e]
theorem new_rows : g_Book_rows [bkD L] = .ok (.list []) := by
  have hf := f_am (L := L)
  have e := lstDF_e (kvs := []) rfl
  have e0 := in_order_0
  refine runF_ret ?_
  generalize bkD L = B at *
  have e1 : (([] : List (D × D)).map (·.1)) = [] := rfl
  rw [e1] at e
  simp -implicitDefEqProofs [m_Book_rows, t_Book_rows_2, t_Book_rows_4, hf, e, e0]
theorem zer_ok (n : Nat) : keysOk [.tuple (List.replicate n (.int 0))] = true := by
  have h1 : PySem.W.alike (.tuple (List.replicate n (.int 0))) (.tuple (List.replicate n (.int 0))) = true := by
    have := PySem.W.alike_ints (List.replicate n 0) (List.replicate n 0)
    rw [List.map_replicate] at this
    exact this
  simp [keysOk, h1, tupB, shp]
theorem new_kept : g_Book_kept [bkD L] = .ok (.list [.tuple (List.replicate L.length (.int 0))]) := by
  have hf := f_su (L := L)
  refine runF_ret ?_
  have e : sortTF [.dict [(.tuple (List.replicate L.length (.int 0)), .dict [])]] = .ok (.list [.tuple (List.replicate L.length (.int 0))]) := by
    show okIf (!isOb [(PyData.tuple (List.replicate L.length (.int 0)), PyData.dict [])] && keysOk [PyData.tuple (List.replicate L.length (.int 0))]) (.list (srtT [.tuple (List.replicate L.length (.int 0))])) = _
    rw [zer_ok]
    show R.ok _ = _
    congr 2
    exact List.mergeSort_singleton _
  generalize bkD L = B at *
  generalize PyData.tuple (List.replicate L.length (.int 0)) = Z at *
  simp -implicitDefEqProofs [m_Book_kept, hf, e]

theorem encL_list (Ls : List (List (List VV))) : ((Ls.map fun ls => ls.map encT).map PyData.list) = Ls.map encL := by rw [List.map_map]; rfl
theorem level_0 {ls : List (List VV)} {n : Nat} (h : Lad ls n) : g_is_level [encL ls, .int 0] = .ok (.bool true) := by
  have hm := h.hm
  obtain ⟨l, r, e⟩ : ∃ l r, ls = l :: r := by
    cases ls with
    | nil => simp at hm
    | cons l r => exact ⟨l, r, rfl⟩
  have hl := h.hl l (by rw [e]; exact List.mem_cons_self)
  have ew : g_whole_of [encL ls] = .ok (.int n) := by
    refine runF_ret ?_
    have i0 : ixD (encL ls) (.int 0) = .ok (encT l) := by rw [e]; exact ixD_l (by decide) rfl
    have e2 := T_len l
    rw [hl.1] at e2
    generalize encL ls = E at *
    generalize encT l = T at *
    simp -implicitDefEqProofs [m_whole_of, i0, e2]
  have l2 : leD (.int 0) (.int (n : Int)) = .ok (.bool true) := by rw [leD_ii, decide_eq_true (by omega)]
  have w0 := whole_int 0
  refine runF_ret ?_
  generalize encL ls = E at *
  generalize ((n : Nat) : Int) = N at *
  simp -implicitDefEqProofs [m_is_level, w0, ew, l2]
theorem grain_0 {Ls : List (List (List VV))} (h : Lads Ls) : g_is_grain [.list (Ls.map encL), .tuple (List.replicate Ls.length (.int 0))] = .ok (.bool true) := by
  have hm := h.hm
  have ez : ((Ls.map encL).zip (List.replicate Ls.length (PyData.int 0))).map (fun p => PyData.tuple [p.1, p.2]) = Ls.map fun ls => .tuple [encL ls, .int 0] := by
    apply List.ext_getElem
    · simp
    · intro i h1 h2
      simp
  have e := lcL_all (ρ := [some (.list (Ls.map encL)), some (.tuple (List.replicate Ls.length (.int 0))), none, none]) (bnd := bTup [2, 3]) (ge := e_is_grain_3) (fun ls => PyData.tuple [encL ls, .int 0]) (fun _ => .bool true) Ls (fun ls hl => ⟨_, rfl, by
    obtain ⟨n, hn⟩ := h.hl ls hl
    have := level_0 hn
    generalize encL ls = E at *
    simp -implicitDefEqProofs [e_is_grain_3, this]⟩)
  have ea : allF [.list (Ls.map fun _ => PyData.bool true)] = .ok (.bool true) := by
    have := allF_e (bs := Ls.map fun _ => true)
    rw [List.map_map] at this
    rw [show (Ls.map fun _ => PyData.bool true) = Ls.map (PyData.bool ∘ fun _ => true) from rfl, this]
    simp
  have z2 : zipD2 [.list (Ls.map encL), .tuple (List.replicate Ls.length (.int 0))] = .ok (Ls.map fun ls => .tuple [encL ls, .int 0]) := by rw [zipD2_lt, ez]
  have l1 : lenF [.list (Ls.map encL)] = .ok (.int Ls.length) := by rw [lenF_l, List.length_map]
  have l2 : lenF [.tuple (List.replicate Ls.length (.int 0))] = .ok (.int Ls.length) := by rw [lenF_t, List.length_replicate]
  have hz : (Ls.map fun ls => PyData.tuple [encL ls, .int 0]).length ≤ sizeLine := small (by simp; omega)
  have it : isiF "tuple" (.tuple (List.replicate Ls.length (.int 0))) = .ok (.bool true) := rfl
  refine runF_ret ?_
  generalize PyData.list (Ls.map encL) = E at *
  generalize PyData.tuple (List.replicate Ls.length (.int 0)) = Z at *
  generalize (Ls.map fun ls => PyData.tuple [encL ls, .int 0]) = R at *
  generalize (Ls.map fun _ => PyData.bool true) = R2 at *
  simp -implicitDefEqProofs [m_is_grain, t_is_grain_3, it, l1, l2, z2, hz, e, ea]
theorem zer_kind (n : Nat) (d : D) : dKind [(.tuple (List.replicate n (.int 0)), d)] (.tuple (List.replicate n (.int 0))) = true := by
  simp [dKind, kyb, leafy, isTupD]
theorem zer_get (n : Nat) (d : D) : dGet [(.tuple (List.replicate n (.int 0)), d)] (.tuple (List.replicate n (.int 0))) = some d := by
  simp [dGet]
theorem runF_nx {m : YF} {k : Nat} {ds : List D} {ρ' : MV.Env} (h : m (ds.map some ++ List.replicate (k - ds.length) none) = .next ρ') : runF k false m ds = .ok .none := by
  unfold runF; rw [h]; rfl
theorem new_table {Ls : List (List (List VV))} (h : Lads Ls) : g_Book_table [bkD (Ls.map fun ls => ls.map encT), .tuple (List.replicate Ls.length (.int 0))] = .ok (.list []) := by
  have fa := f_ax (L := Ls.map fun ls => ls.map encT)
  have fs := f_su (L := Ls.map fun ls => ls.map encT)
  rw [encL_list] at fa
  rw [List.length_map] at fs
  have eg := grain_0 h
  have hk := zer_kind Ls.length (.dict [])
  have hg := zer_get Ls.length (.dict [])
  have hn := notInD_d hk
  rw [hg] at hn
  have hx := ixD_d hk hg
  have e := lstDF_e (kvs := []) rfl
  rw [show (([] : List (D × D)).map (·.1)) = [] from rfl] at e
  have e0 := in_order_0
  have hh := has_m (L := Ls.map fun ls => ls.map encT) (m := "table_known") (by decide +kernel) (by decide +kernel) (by decide +kernel)
  have ek : g_Book_table_known [bkD (Ls.map fun ls => ls.map encT), .tuple (List.replicate Ls.length (.int 0))] = .ok .none := by
    refine runF_nx (ρ' := [some (bkD (Ls.map fun ls => ls.map encT)), some (.tuple (List.replicate Ls.length (.int 0)))]) ?_
    generalize bkD (Ls.map fun ls => ls.map encT) = B at *
    generalize PyData.tuple (List.replicate Ls.length (.int 0)) = Z at *
    generalize PyData.list (Ls.map encL) = E at *
    simp -implicitDefEqProofs [m_Book_table_known, fa, fs, eg, hn]
  have xm : ∀ ρ : MV.Env, xMeth "Book" "table_known" g_Book_table_known (xVar 0) (aCons (xVar 1) aNil) ρ = ((xVar 0 ρ).bind fun x => if obHas "Book" "table_known" x = true then ((aCons (xVar 1) aNil) ρ).bind fun ds => g_Book_table_known (x :: ds) else .stuck) := fun ρ => rfl
  have el : ∀ ρ : MV.Env, lcL (bName 3) tYesX e_Book_table_3 ρ [] = .ok [] := fun _ => rfl
  refine runF_ret ?_
  generalize bkD (Ls.map fun ls => ls.map encT) = B at *
  generalize PyData.tuple (List.replicate Ls.length (.int 0)) = Z at *
  simp -implicitDefEqProofs [m_Book_table, t_Book_table_2, t_Book_table_3, xm, hh, ek, fs, hx, e, e0, el]
end

/-! ### spoiled ladders -/
theorem whole_bool (b : Bool) : g_is_whole [.bool b] = .ok (.bool false) := by refine runF_ret ?_; simp [m_is_whole, isiD]
theorem whole_none : g_is_whole [.none] = .ok (.bool false) := by refine runF_ret ?_; simp [m_is_whole, isiD]
theorem val_non {d : D} (h1 : g_is_whole [d] = .ok (.bool false)) (h2 : isiF "str" d = .ok (.bool false)) : g_is_value [d] = .ok (.bool false) := by
  have := not_word h2
  refine runF_ret ?_
  simp -implicitDefEqProofs [m_is_value, h1, this]
theorem val_Ab : g_is_value [.str "Ab"] = .ok (.bool false) := by
  have e : ("Ab" : Str) = ⟨[65, 98].toArray⟩ := by decide +kernel
  have h1 := whole_str "Ab"
  have h2 := is_word_eq (l := [65, 98]) (by decide)
  rw [← e, show wordB [65, 98] = false by decide +kernel] at h2
  refine runF_ret ?_
  simp -implicitDefEqProofs [m_is_value, h1, h2]
theorem not_line_first {d : D} {r : List VV} (hd' : g_is_value [d] = .ok (.bool false)) (hr : ∀ v ∈ r, okV v) (hz : r.length ≤ 100) : g_is_line [.tuple (d :: r.map VV.enc)] = .ok (.bool false) := by
  rw [is_line_tup (bs := false :: r.map fun _ => true) (by simp; omega) ?_]
  · simp
  · rw [List.map_cons, List.map_cons, hd', List.map_map, List.map_map]
    congr 1
    exact List.map_congr_left fun v hv => value_ok (hr v hv)
theorem line_5 {l : List VV} (h : l.length = 5) (hv : ∀ v ∈ l, okV v) : g_is_line [encT l] = .ok (.bool false) := by
  unfold encT
  rw [is_line_tup (bs := l.map fun _ => true) (by simp; omega) ?_]
  · simp [h]
  · rw [List.map_map, List.map_map]
    exact List.map_congr_left fun v hv' => value_ok (hv v hv')
theorem lads_app {ls : List (List VV)} {n : Nat} (h : Lad ls n) {d : D} (hd' : LineC d) : ∀ e ∈ ls.map encT ++ [d], LineC e := fun e he => by
  rcases List.mem_append.mp he with he | he
  · exact h.lc e he
  · rw [List.mem_singleton.mp he]; exact hd'
theorem app_not_line {ls : List (List VV)} {n : Nat} (h : Lad ls n) {d : D} (hd' : g_is_line [d] = .ok (.bool false)) : g_is_ladder [.list (ls.map encT ++ [d])] = .ok (.bool false) := by
  have hm := h.hm
  refine not_lad_good (lads_app h (.inr hd')) (by simp; omega) ?_
  exact not_good (i := ls.length) (by simp) (not_line hd')
theorem app_not_tog {ls : List (List VV)} {n : Nat} (h : Lad ls n) {l o : List VV} (hl : okL l) (ho : o ∈ ls) (ht : ¬ Tog l o) : g_is_ladder [.list (ls.map encT ++ [encT l])] = .ok (.bool false) := by
  have hm := h.hm
  refine not_lad_good (lads_app h (.inl ⟨l, hl, rfl⟩)) (by simp; omega) ?_
  exact not_tog (i := ls.length) (l := l) (o := o) (ls := ls) (by rw [show ls.length = (ls.map encT).length by simp]; exact List.take_left) (by simp) ho ht
def P41 : Int := 100000000000000000000000000000000000000000
def P42 : Int := 1000000000000000000000000000000000000000000
def P43 : Int := 10000000000000000000000000000000000000000000
theorem pow41 : powD (.int 10) (.int 41) = .ok (.int P41) := powD_i (by omega) (by omega) (by decide)
theorem pow42 : powD (.int 10) (.int 42) = .ok (.int P42) := powD_i (by omega) (by omega) (by decide)
theorem pow43 : powD (.int 10) (.int 43) = .ok (.int P43) := powD_i (by omega) (by omega) (by decide)
theorem add_one {ls : List (List VV)} (hz : ls.length ≤ 1000) (d : D) : addD (encL ls) (.list [d]) = .ok (.list (ls.map encT ++ [d])) := by
  unfold encL
  exact addD_ll (small (by simp; omega))
theorem sl1 (l : List VV) : slD (encT l) (some 1) none = .ok (.tuple ((l.drop 1).map VV.enc)) := by
  unfold encT
  rw [slD_t, cutD_map, cutG_pn (by decide)]; rfl
section
variable {ls : List (List VV)} {n : Nat} {l : List VV} {c nw : Int}
theorem sp0 (h : Lad ls n) (hl : l ∈ ls) {w : Int} (hw : 0 ≤ w ∧ w < 4) : ∃ d, t__law_spoiled_ladder_4 [some (encL ls), some (.int c), some (.int w), some (encT l), some (.int nw), none, none] = .ret d ∧ g_is_ladder [d] = .ok (.bool false) := by
  have hw1 : ltD (.int w) (.int 4) = .ok (.bool true) := by rw [ltD_ii, decide_eq_true (by omega)]
  have mk : ∀ a b c e : D, mkLst [a, b, c, e] = .ok (.list [a, b, c, e]) := fun a b c e => mkLst_ok (small (by simp))
  have et : tupF [encL ls] = .ok (.tuple (ls.map encT)) := rfl
  have run : ∀ d, ixD (.list [.tuple (ls.map encT), .list [], .none, encT l]) (.int w) = .ok d → t__law_spoiled_ladder_4 [some (encL ls), some (.int c), some (.int w), some (encT l), some (.int nw), none, none] = .ret d := fun d e => by
    generalize encT l = T at *
    generalize PyData.tuple (ls.map encT) = U at *
    generalize encL ls = E at *
    simp -implicitDefEqProofs [t__law_spoiled_ladder_4, hw1, et, mk, e, -ltD_ii]
  have : w = 0 ∨ w = 1 ∨ w = 2 ∨ w = 3 := by omega
  rcases this with rfl | rfl | rfl | rfl
  · exact ⟨_, run _ (ixD_l (by decide) rfl), not_lad_non rfl⟩
  · exact ⟨_, run _ (ixD_l (by decide) rfl), not_lad_len (by simp)⟩
  · exact ⟨_, run _ (ixD_l (by decide) rfl), not_lad_non rfl⟩
  · exact ⟨_, run _ (ixD_l (by decide) rfl), not_lad_non rfl⟩
theorem sp4 (h : Lad ls n) (hl : l ∈ ls) : ∃ d, t__law_spoiled_ladder_4 [some (encL ls), some (.int c), some (.int 4), some (encT l), some (.int nw), none, none] = .ret d ∧ g_is_ladder [d] = .ok (.bool false) := by
  have hm := h.hm
  have ea := add_one (ls := ls) (by omega) (encT l)
  refine ⟨_, ?_, app_not_tog h (h.hl l hl).2 hl fun z => z.2.1 rfl⟩
  generalize encT l = T at *
  generalize encL ls = E at *
  simp -implicitDefEqProofs [t__law_spoiled_ladder_4, t__law_spoiled_ladder_6, ea]
theorem sp5 (h : Lad ls n) (hl : l ∈ ls) : ∃ d, t__law_spoiled_ladder_4 [some (encL ls), some (.int c), some (.int 5), some (encT l), some (.int nw), none, none] = .ret d ∧ g_is_ladder [d] = .ok (.bool false) := by
  have hm := h.hm
  have hn := h.hn
  have hll := (h.hl l hl).1
  have e1 := sl1 l
  have e2 : addD (.list [.int nw]) (.list ((l.drop 1).map VV.enc)) = .ok (.list (.int nw :: (l.drop 1).map VV.enc)) := addD_ll (small (by simp; omega))
  have ea := add_one (ls := ls) (by omega) (.list (.int nw :: (l.drop 1).map VV.enc))
  refine ⟨.list (ls.map encT ++ [.list (.int nw :: (l.drop 1).map VV.enc)]), ?_, app_not_line h (is_line_non rfl)⟩
  generalize encT l = T at *
  generalize encL ls = E at *
  generalize (l.drop 1).map VV.enc = R at *
  simp -implicitDefEqProofs [t__law_spoiled_ladder_4, t__law_spoiled_ladder_6, t__law_spoiled_ladder_8, e1, e2, ea]
theorem sp6 (h : Lad ls n) (hl : l ∈ ls) : ∃ d, t__law_spoiled_ladder_4 [some (encL ls), some (.int c), some (.int 6), some (encT l), some (.int nw), none, none] = .ret d ∧ g_is_ladder [d] = .ok (.bool false) := by
  have hm := h.hm
  have hn := h.hn
  have hll := h.hl l hl
  have e2 : addD (.tuple [.int nw]) (encT l) = .ok (encT (.i nw :: l)) := by
    unfold encT; rw [addD_tt (small (by simp; omega))]; rfl
  have ea := add_one (ls := ls) (by omega) (encT (.i nw :: l))
  refine ⟨.list (ls.map encT ++ [encT (.i nw :: l)]), ?_, ?_⟩
  · generalize encT l = T at *
    generalize encT (.i nw :: l) = T2 at *
    generalize encL ls = E at *
    simp -implicitDefEqProofs [t__law_spoiled_ladder_4, t__law_spoiled_ladder_6, t__law_spoiled_ladder_8, t__law_spoiled_ladder_10, e2, ea]
  · have hv : ∀ v ∈ VV.i nw :: l, okV v := fun v hv => by
      rcases List.mem_cons.mp hv with rfl | hv
      · trivial
      · exact hll.2.v v hv
    by_cases h4 : n = 4
    · exact app_not_line h (line_5 (by simp [hll.1, h4]) hv)
    · exact app_not_tog h ⟨by simp [hll.1]; omega, hv⟩ hl fun z => by have := z.1; simp at this
theorem sp7 (h : Lad ls n) (hl : l ∈ ls) {w : Int} (hw : 7 ≤ w ∧ w < 10) : ∃ d, t__law_spoiled_ladder_4 [some (encL ls), some (.int c), some (.int w), some (encT l), some (.int nw), none, none] = .ret d ∧ g_is_ladder [d] = .ok (.bool false) := by
  have hm := h.hm
  have hn := h.hn
  have hll := h.hl l hl
  have e1 := sl1 l
  have k1 : ltD (.int w) (.int 4) = .ok (.bool false) := by rw [ltD_ii, decide_eq_false (by omega)]
  have k2 : eqD (.int w) (.int 4) = .ok (.bool false) := by rw [eqD_ii, decide_eq_false (by omega)]
  have k3 : eqD (.int w) (.int 5) = .ok (.bool false) := by rw [eqD_ii, decide_eq_false (by omega)]
  have k4 : eqD (.int w) (.int 6) = .ok (.bool false) := by rw [eqD_ii, decide_eq_false (by omega)]
  have k5 : ltD (.int w) (.int 10) = .ok (.bool true) := by rw [ltD_ii, decide_eq_true (by omega)]
  have mk : ∀ a b c : D, mkLst [a, b, c] = .ok (.list [a, b, c]) := fun a b c => mkLst_ok (small (by simp))
  have run : ∀ x, ixD (.list [.bool true, .none, .str "Ab"]) (.int (w - 7)) = .ok x → t__law_spoiled_ladder_4 [some (encL ls), some (.int c), some (.int w), some (encT l), some (.int nw), none, none] = .ret (.list (ls.map encT ++ [.tuple (x :: (l.drop 1).map VV.enc)])) := fun x e => by
    have e2 : addD (.tuple [x]) (.tuple ((l.drop 1).map VV.enc)) = .ok (.tuple (x :: (l.drop 1).map VV.enc)) := addD_tt (small (by simp; omega))
    have ea := add_one (ls := ls) (by omega) (.tuple (x :: (l.drop 1).map VV.enc))
    generalize encT l = T at *
    generalize encL ls = E at *
    generalize (l.drop 1).map VV.enc = R at *
    simp -implicitDefEqProofs [t__law_spoiled_ladder_4, t__law_spoiled_ladder_6, t__law_spoiled_ladder_8, t__law_spoiled_ladder_10, t__law_spoiled_ladder_12, k1, k2, k3, k4, k5, mk, e, e1, e2, ea, -ltD_ii, -eqD_ii]
  have hr : ∀ v ∈ l.drop 1, okV v := fun v hv => hll.2.v v (List.mem_of_mem_drop hv)
  have hz : (l.drop 1).length ≤ 100 := by simp; omega
  have : w = 7 ∨ w = 8 ∨ w = 9 := by omega
  rcases this with rfl | rfl | rfl
  · exact ⟨_, run _ (ixD_l (by decide) rfl), app_not_line h (not_line_first (val_non (whole_bool _) rfl) hr hz)⟩
  · exact ⟨_, run _ (ixD_l (by decide) rfl), app_not_line h (not_line_first (val_non whole_none rfl) hr hz)⟩
  · exact ⟨_, run _ (ixD_l (by decide) rfl), app_not_line h (not_line_first val_Ab hr hz)⟩

theorem sl1m (l : List VV) : slD (encT l) (some 1) (some (-1)) = .ok (.tuple (((l.drop 1).take (l.length - 2)).map VV.enc)) := by
  unfold encT
  rw [slD_t, cutD_map]
  have : cutG l (some 1) (some (-1)) = (l.drop 1).take (l.length - 2) := by
    unfold cutG
    have h1 : HT.sIx l.length 0 (some 1) = min 1 l.length := sIx_pos (by decide)
    have h2 : HT.sIx l.length l.length (some (-1)) = l.length - 1 := by
      show (if (-1 : Int) < 0 then ((-1 : Int) + (l.length : Int)).toNat else min (-1 : Int).toNat l.length) = _
      rw [if_pos (by decide)]; omega
    rw [h1, h2]
    cases l with
    | nil => rfl
    | cons a r =>
      have : min 1 (a :: r).length = 1 := by simp
      rw [this]; simp only [List.length_cons]
      congr 1
  rw [this]
theorem sp10 (h : Lad ls n) (hl : l ∈ ls) (hn3 : 2 < n) : ∃ d, t__law_spoiled_ladder_4 [some (encL ls), some (.int c), some (.int 10), some (encT l), some (.int nw), none, none] = .ret d ∧ g_is_ladder [d] = .ok (.bool false) := by
  have hm := h.hm
  have hn := h.hn
  have hll := h.hl l hl
  have e1 := sl1m l
  have e2 : addD (.tuple [.int nw]) (.tuple (((l.drop 1).take (l.length - 2)).map VV.enc)) = .ok (.tuple (.int nw :: ((l.drop 1).take (l.length - 2)).map VV.enc)) := addD_tt (small (by simp; omega))
  have e3 : addD (.tuple (.int nw :: ((l.drop 1).take (l.length - 2)).map VV.enc)) (.tuple [.int P42]) = .ok (encT (.i nw :: (l.drop 1).take (l.length - 2) ++ [.i P42])) := by
    rw [addD_tt (small (by simp; omega))]
    unfold encT
    simp [VV.enc]
  have ea := add_one (ls := ls) (by omega) (encT (.i nw :: (l.drop 1).take (l.length - 2) ++ [.i P42]))
  have eT := T_len l
  rw [hll.1] at eT
  have k1 : gtD (.int (n : Int)) (.int 2) = .ok (.bool true) := by rw [gtD_ii, decide_eq_true (by omega)]
  have p42 := pow42
  refine ⟨.list (ls.map encT ++ [encT (.i nw :: (l.drop 1).take (l.length - 2) ++ [.i P42])]), ?_, ?_⟩
  · generalize encT l = T at *
    generalize encT (.i nw :: (l.drop 1).take (l.length - 2) ++ [.i P42]) = T2 at *
    generalize encL ls = E at *
    generalize ((l.drop 1).take (l.length - 2)).map VV.enc = R at *
    generalize ((n : Nat) : Int) = N at *
    simp -implicitDefEqProofs [t__law_spoiled_ladder_4, t__law_spoiled_ladder_6, t__law_spoiled_ladder_8, t__law_spoiled_ladder_10, t__law_spoiled_ladder_12, t__law_spoiled_ladder_14, eT, k1, e1, e2, p42, e3, ea, -gtD_ii]
  · have hv : ∀ v ∈ VV.i nw :: (l.drop 1).take (l.length - 2) ++ [VV.i P42], okV v := fun v hv => by
      rcases List.mem_append.mp hv with hv | hv
      · rcases List.mem_cons.mp hv with rfl | hv
        · trivial
        · exact hll.2.v v (List.mem_of_mem_drop (List.mem_of_mem_take hv))
      · rw [List.mem_singleton.mp hv]; trivial
    have hlen : (VV.i nw :: (l.drop 1).take (l.length - 2) ++ [VV.i P42]).length = n := by simp; omega
    refine app_not_tog h ⟨by rw [hlen]; omega, hv⟩ hl fun z => ?_
    have e5 := z.2.2 (n - 2) (by rw [hlen]; omega) ?_
    · have e6 : (VV.i nw :: (l.drop 1).take (l.length - 2) ++ [VV.i P42])[n - 2 + 1]? = some (.i P42) := by
        rw [List.getElem?_append_right (by simp; omega)]
        have : n - 2 + 1 - (VV.i nw :: (l.drop 1).take (l.length - 2)).length = 0 := by simp; omega
        rw [this]; rfl
      rw [e6] at e5
      have hmem : VV.i P42 ∈ l := List.mem_of_getElem? e5.symm
      have := h.sm l hl _ hmem
      have : P42 < 10000000000000000000000000000000 := this.2
      revert this
      decide
    · rw [List.getElem?_append_left (by simp; omega)]
      obtain ⟨j, hj⟩ : ∃ j, n - 2 = j + 1 := ⟨n - 3, by omega⟩
      rw [hj, List.getElem?_cons_succ, List.getElem?_take_of_lt (by omega), List.getElem?_drop, Nat.add_comm]
theorem sp11 (h : Lad ls n) (hl : l ∈ ls) {w : Int} (hw : w = 11 ∨ (w = 10 ∧ n ≤ 2)) : ∃ d, t__law_spoiled_ladder_4 [some (encL ls), some (.int c), some (.int w), some (encT l), some (.int nw), none, none] = .ret d ∧ g_is_ladder [d] = .ok (.bool false) := by
  have hm := h.hm
  have hn := h.hn
  have hll := h.hl l hl
  have e1 := sl1 l
  have k1 : ltD (.int w) (.int 4) = .ok (.bool false) := by rw [ltD_ii, decide_eq_false (by omega)]
  have k2 : eqD (.int w) (.int 4) = .ok (.bool false) := by rw [eqD_ii, decide_eq_false (by omega)]
  have k3 : eqD (.int w) (.int 5) = .ok (.bool false) := by rw [eqD_ii, decide_eq_false (by omega)]
  have k4 : eqD (.int w) (.int 6) = .ok (.bool false) := by rw [eqD_ii, decide_eq_false (by omega)]
  have k5 : ltD (.int w) (.int 10) = .ok (.bool false) := by rw [ltD_ii, decide_eq_false (by omega)]
  have eT := T_len l
  rw [hll.1] at eT
  have eL : lenF [encL ls] = .ok (.int ls.length) := by unfold encL; rw [lenF_l, List.length_map]
  have er : rng1 [.int (41 - (ls.length : Int))] = .ok ((List.range (41 - ls.length)).map fun (i : Nat) => PyData.int (i : Int)) := by
    have := rng1_n (41 - ls.length) (by omega)
    rwa [show ((41 - ls.length : Nat) : Int) = 41 - (ls.length : Int) by omega] at this
  have el : ∀ m5 : Int, lcL (bName 6) tYesX e__law_spoiled_ladder_17 [some (encL ls), some (.int c), some (.int w), some (encT l), some (.int nw), some (.int m5), none] ((List.range (41 - ls.length)).map fun (i : Nat) => PyData.int (i : Int)) = .ok ((List.range (41 - ls.length)).map fun (k : Nat) => .tuple (.int (P43 + k) :: (l.drop 1).map VV.enc)) := fun m5 =>
    lcL_all (fun (i : Nat) => PyData.int (i : Int)) (fun (k : Nat) => .tuple (.int (P43 + k) :: (l.drop 1).map VV.enc)) _ fun k hk => ⟨_, rfl, by
      have e2 : addD (.tuple [.int (P43 + k)]) (.tuple ((l.drop 1).map VV.enc)) = .ok (.tuple (.int (P43 + k) :: (l.drop 1).map VV.enc)) := addD_tt (small (by simp; omega))
      have p43 := pow43
      generalize encT l = T at *
      generalize encL ls = E at *
      generalize (l.drop 1).map VV.enc = R at *
      simp -implicitDefEqProofs [e__law_spoiled_ladder_17, p43, e1, e2]⟩
  have hz : ((List.range (41 - ls.length)).map fun (i : Nat) => PyData.int (i : Int)).length ≤ sizeLine := small (by simp; omega)
  have ea : addD (encL ls) (.list ((List.range (41 - ls.length)).map fun (k : Nat) => .tuple (.int (P43 + k) :: (l.drop 1).map VV.enc))) = .ok (.list (ls.map encT ++ (List.range (41 - ls.length)).map fun (k : Nat) => .tuple (.int (P43 + k) :: (l.drop 1).map VV.enc))) := by
    unfold encL
    exact addD_ll (small (by simp; omega))
  refine ⟨.list (ls.map encT ++ (List.range (41 - ls.length)).map fun (k : Nat) => .tuple (.int (P43 + k) :: (l.drop 1).map VV.enc)), ?_, not_lad_len (by simp; omega)⟩
  have el := el (41 - (ls.length : Int))
  have k6 : (w = 11 ∧ eqD (.int w) (.int 10) = .ok (.bool false)) ∨ (eqD (.int w) (.int 10) = .ok (.bool true) ∧ gtD (.int (n : Int)) (.int 2) = .ok (.bool false)) := by
    rcases hw with rfl | ⟨rfl, h2⟩
    · exact .inl ⟨rfl, by rw [eqD_ii, decide_eq_false (by omega)]⟩
    · exact .inr ⟨by rw [eqD_ii, decide_eq_true rfl], by rw [gtD_ii, decide_eq_false (by omega)]⟩
  generalize encT l = T at *
  generalize encL ls = E at *
  generalize ((List.range (41 - ls.length)).map fun (i : Nat) => PyData.int (i : Int)) = RG at *
  generalize (List.range (41 - ls.length)).map (fun (k : Nat) => PyData.tuple (.int (P43 + k) :: (l.drop 1).map VV.enc)) = RR at *
  rcases k6 with ⟨_, k6⟩ | ⟨k6, k7⟩
  · simp -implicitDefEqProofs [t__law_spoiled_ladder_4, t__law_spoiled_ladder_6, t__law_spoiled_ladder_8, t__law_spoiled_ladder_10, t__law_spoiled_ladder_12, t__law_spoiled_ladder_14, t__law_spoiled_ladder_16, t__law_spoiled_ladder_17, k1, k2, k3, k4, k5, k6, eL, er, el, hz, ea, -ltD_ii, -eqD_ii, -rng1_e]
  · generalize ((n : Nat) : Int) = N at *
    simp -implicitDefEqProofs [t__law_spoiled_ladder_4, t__law_spoiled_ladder_6, t__law_spoiled_ladder_8, t__law_spoiled_ladder_10, t__law_spoiled_ladder_12, t__law_spoiled_ladder_14, t__law_spoiled_ladder_16, t__law_spoiled_ladder_17, k1, k2, k3, k4, k5, k6, k7, eT, eL, er, el, hz, ea, -ltD_ii, -eqD_ii, -gtD_ii, -rng1_e]
theorem spoiled_ladder56 (h : Lad ls n) (c : Int) : ∃ d, g__law_spoiled_ladder [encL ls, .int c] = .ok d ∧ g_is_ladder [d] = .ok (.bool false) := by
  have hm := h.hm
  have hi1 := Int.emod_nonneg (c / 12) (b := (ls.length : Int)) (by omega)
  have hi2 := Int.emod_lt_of_pos (c / 12) (b := (ls.length : Int)) (by omega)
  have hlt : (c / 12 % (ls.length : Int)).toNat < ls.length := by omega
  obtain ⟨l, el⟩ : ∃ l, ls[(c / 12 % (ls.length : Int)).toNat]? = some l := ⟨_, List.getElem?_eq_getElem hlt⟩
  have hl : l ∈ ls := List.mem_of_getElem? el
  have ex : ixD (encL ls) (.int (c / 12 % (ls.length : Int))) = .ok (encT l) := ixD_l hi1 (by rw [List.getElem?_map, el]; rfl)
  have eL : lenF [encL ls] = .ok (.int ls.length) := by unfold encL; rw [lenF_l, List.length_map]
  have em : modD (.int (c / 12)) (.int (ls.length : Int)) = .ok (.int (c / 12 % (ls.length : Int))) := modD_i (by omega)
  have p41 := pow41
  have main : ∃ d, t__law_spoiled_ladder_4 [some (encL ls), some (.int c), some (.int (c % 12)), some (encT l), some (.int (P41 + c / 12 % 7)), none, none] = .ret d ∧ g_is_ladder [d] = .ok (.bool false) := by
    have : (0 ≤ c % 12 ∧ c % 12 < 4) ∨ c % 12 = 4 ∨ c % 12 = 5 ∨ c % 12 = 6 ∨ (7 ≤ c % 12 ∧ c % 12 < 10) ∨ (c % 12 = 10 ∧ 2 < n) ∨ (c % 12 = 11 ∨ (c % 12 = 10 ∧ n ≤ 2)) := by omega
    rcases this with z | z | z | z | z | z | z
    · exact sp0 h hl z
    · rw [z]; exact sp4 h hl
    · rw [z]; exact sp5 h hl
    · rw [z]; exact sp6 h hl
    · exact sp7 h hl z
    · rw [z.1]; exact sp10 h hl z.2
    · exact sp11 h hl z
  obtain ⟨d, e, hd⟩ := main
  refine ⟨d, runF_ret ?_, hd⟩
  generalize encT l = T at *
  generalize encL ls = E at *
  generalize ((ls.length : Nat) : Int) = N at *
  simp -implicitDefEqProofs [m__law_spoiled_ladder, t__law_spoiled_ladder_2, t__law_spoiled_ladder_3, modD_i, fdivD_i, eL, em, ex, p41, e]
end

/-! ### spoiled things -/
theorem lad_dec {Ls : List (List (List VV))} (h : Lads Ls) : ∀ d ∈ Ls.map encL, ∃ b : Bool, g_is_ladder [d] = .ok (.bool b) := fun d hd => by
  obtain ⟨ls, hl, rfl⟩ := List.mem_map.mp hd
  obtain ⟨n, hn⟩ := h.hl ls hl
  exact ⟨true, lad_true hn⟩
theorem bad_len {ds : List D} (hz : ds.length ≤ 1000) (h : ¬ (1 ≤ ds.length ∧ ds.length ≤ 4)) : badI (.list ds) := .inl (by rw [i1_list hz, decide_eq_false h]; rfl)
theorem spoiled56 {Ls : List (List (List VV))} (h : Lads Ls) (c : Int) : ∃ d, g__law_spoiled [.list (Ls.map encL), .int c] = .ok d ∧ badI d := by
  have hm := h.hm
  have main : ∃ d, t__law_spoiled_2 [some (.list (Ls.map encL)), some (.int c), some (.int (c % 14)), none] = .ret d ∧ badI d := by
    have : c % 14 = 0 ∨ c % 14 = 1 ∨ c % 14 = 2 ∨ c % 14 = 3 ∨ (c % 14 = 4 ∨ c % 14 = 5 ∨ c % 14 = 6) ∨ (7 ≤ c % 14 ∧ c % 14 < 14) := by omega
    rcases this with z | z | z | z | z | z
    · rw [z]
      refine ⟨.list [], ?_, bad_len (by simp) (by simp)⟩
      generalize PyData.list (Ls.map encL) = E at *
      simp -implicitDefEqProofs [t__law_spoiled_2]
    · rw [z]
      have e1 : mulLD (.list (Ls.map encL)) (.int 5) = .ok (.list (List.replicate 5 (Ls.map encL)).flatten) := by
        show (if _ then _ else _) = _
        rw [if_pos ⟨by decide, by decide, by simp; omega⟩]; rfl
      have e2 : slD (.list (List.replicate 5 (Ls.map encL)).flatten) none (some 5) = .ok (.list ((List.replicate 5 (Ls.map encL)).flatten.take 5)) := by
        rw [slD_l, cutD_eq, cutG_np (by decide)]; rfl
      refine ⟨.list ((List.replicate 5 (Ls.map encL)).flatten.take 5), ?_, bad_len (by simp; omega) (by simp; omega)⟩
      generalize PyData.list (Ls.map encL) = E at *
      generalize (List.replicate 5 (Ls.map encL)).flatten = F at *
      simp -implicitDefEqProofs [t__law_spoiled_2, t__law_spoiled_4, e1, e2, -slD_l]
    · rw [z]
      have et : tupF [.list (Ls.map encL)] = .ok (.tuple (Ls.map encL)) := rfl
      refine ⟨.tuple (Ls.map encL), ?_, .inl (i1_non rfl)⟩
      generalize PyData.list (Ls.map encL) = E at *
      simp -implicitDefEqProofs [t__law_spoiled_2, t__law_spoiled_4, t__law_spoiled_6, et]
    · rw [z]
      obtain ⟨ls, r, e⟩ : ∃ ls r, Ls = ls :: r := by
        cases Ls with
        | nil => simp at hm
        | cons a b => exact ⟨a, b, rfl⟩
      obtain ⟨n, hn⟩ := h.hl ls (by rw [e]; exact List.mem_cons_self)
      have hk := hn.hm
      have e0 : ixD (.list (Ls.map encL)) (.int 0) = .ok (encL ls) := by rw [e]; exact ixD_l (by decide) rfl
      refine ⟨encL ls, ?_, ?_⟩
      · generalize encL ls = E1 at *
        generalize PyData.list (Ls.map encL) = E at *
        simp -implicitDefEqProofs [t__law_spoiled_2, t__law_spoiled_4, t__law_spoiled_6, t__law_spoiled_8, e0]
      · obtain ⟨l, r2, e2⟩ : ∃ l r, ls = l :: r := by
          cases ls with
          | nil => simp at hk
          | cons a b => exact ⟨a, b, rfl⟩
        refine bad_lad (ds := ls.map encT) (by simp; omega) (fun d hd => ?_) (d := encT l) (by rw [e2]; simp) (not_lad_non rfl)
        obtain ⟨l', _, rfl⟩ := List.mem_map.mp hd
        exact ⟨false, not_lad_non rfl⟩
    · have k1 : ltD (.int (c % 14)) (.int 7) = .ok (.bool true) := by rw [ltD_ii, decide_eq_true (by omega)]
      have k2 : eqD (.int (c % 14)) (.int 0) = .ok (.bool false) := by rw [eqD_ii, decide_eq_false (by omega)]
      have k3 : eqD (.int (c % 14)) (.int 1) = .ok (.bool false) := by rw [eqD_ii, decide_eq_false (by omega)]
      have k4 : eqD (.int (c % 14)) (.int 2) = .ok (.bool false) := by rw [eqD_ii, decide_eq_false (by omega)]
      have k5 : eqD (.int (c % 14)) (.int 3) = .ok (.bool false) := by rw [eqD_ii, decide_eq_false (by omega)]
      have mk : ∀ a b c : D, mkLst [a, b, c] = .ok (.list [a, b, c]) := fun a b c => mkLst_ok (small (by simp))
      have p60 : powD (.int 10) (.int 60) = .ok (.int (10 ^ 60)) := powD_i (by omega) (by omega) (by decide)
      have m60 : modD (.int (c / 14)) (.int (10 ^ 60)) = .ok (.int (c / 14 % 10 ^ 60)) := modD_i (by decide)
      generalize hT : (10 : Int) ^ 60 = T at *
      have run : ∀ x, ixD (.list [.none, .int (c / 14 % T), .str "axis"]) (.int (c % 14 - 4)) = .ok x → t__law_spoiled_2 [some (.list (Ls.map encL)), some (.int c), some (.int (c % 14)), none] = .ret x := fun x e => by
        generalize PyData.list (Ls.map encL) = E at *
        simp -implicitDefEqProofs [t__law_spoiled_2, t__law_spoiled_4, t__law_spoiled_6, t__law_spoiled_8, t__law_spoiled_10, k1, k2, k3, k4, k5, mk, fdivD_i, p60, m60, e, -ltD_ii, -eqD_ii]
      rcases z with z | z | z
      · exact ⟨_, run _ (by rw [z]; exact ixD_l (by decide) rfl), .inl (i1_non rfl)⟩
      · exact ⟨_, run _ (by rw [z]; exact ixD_l (by decide) rfl), .inl (i1_non rfl)⟩
      · exact ⟨_, run _ (by rw [z]; exact ixD_l (by decide) rfl), .inl (i1_non rfl)⟩
    · have k1 : ltD (.int (c % 14)) (.int 7) = .ok (.bool false) := by rw [ltD_ii, decide_eq_false (by omega)]
      have k2 : eqD (.int (c % 14)) (.int 0) = .ok (.bool false) := by rw [eqD_ii, decide_eq_false (by omega)]
      have k3 : eqD (.int (c % 14)) (.int 1) = .ok (.bool false) := by rw [eqD_ii, decide_eq_false (by omega)]
      have k4 : eqD (.int (c % 14)) (.int 2) = .ok (.bool false) := by rw [eqD_ii, decide_eq_false (by omega)]
      have k5 : eqD (.int (c % 14)) (.int 3) = .ok (.bool false) := by rw [eqD_ii, decide_eq_false (by omega)]
      have hi1 := Int.emod_nonneg (c / 14) (b := (Ls.length : Int)) (by omega)
      have hi2 := Int.emod_lt_of_pos (c / 14) (b := (Ls.length : Int)) (by omega)
      have em : modD (.int (c / 14)) (.int (Ls.length : Int)) = .ok (.int (c / 14 % (Ls.length : Int))) := modD_i (by omega)
      have eL : lenF [.list (Ls.map encL)] = .ok (.int Ls.length) := by rw [lenF_l, List.length_map]
      obtain ⟨i, hi⟩ : ∃ i : Nat, c / 14 % (Ls.length : Int) = i := ⟨(c / 14 % (Ls.length : Int)).toNat, by omega⟩
      rw [hi] at em hi1 hi2
      obtain ⟨ls, el⟩ : ∃ ls, Ls[i]? = some ls := ⟨_, List.getElem?_eq_getElem (by omega)⟩
      have hls : ls ∈ Ls := List.mem_of_getElem? el
      obtain ⟨n, hn⟩ := h.hl ls hls
      have ex : ixD (.list (Ls.map encL)) (.int (i : Int)) = .ok (encL ls) := ixD_l (by omega) (by rw [List.getElem?_map, Int.toNat_natCast, el]; rfl)
      obtain ⟨d, e1, e2⟩ := spoiled_ladder56 hn (c / 56)
      have s1 : slD (.list (Ls.map encL)) none (some (i : Int)) = .ok (.list ((Ls.map encL).take i)) := by
        rw [slD_l, cutD_eq, cutG_np (by omega)]; rfl
      have s2 : slD (.list (Ls.map encL)) (some ((i : Int) + 1)) none = .ok (.list ((Ls.map encL).drop (i + 1))) := by
        rw [slD_l, cutD_eq, cutG_pn (by omega)]; rfl
      have a1 : addD (.list ((Ls.map encL).take i)) (.list [d]) = .ok (.list ((Ls.map encL).take i ++ [d])) := addD_ll (small (by simp; omega))
      have a2 : addD (.list ((Ls.map encL).take i ++ [d])) (.list ((Ls.map encL).drop (i + 1))) = .ok (.list ((Ls.map encL).take i ++ [d] ++ (Ls.map encL).drop (i + 1))) := addD_ll (small (by simp; omega))
      refine ⟨.list ((Ls.map encL).take i ++ [d] ++ (Ls.map encL).drop (i + 1)), ?_, bad_lad (by simp; omega) (fun x hx => ?_) (d := d) (by simp) e2⟩
      · generalize encL ls = E1 at *
        generalize PyData.list (Ls.map encL) = E at *
        generalize (Ls.map encL).take i = TK at *
        generalize (Ls.map encL).drop (i + 1) = DR at *
        generalize ((i : Nat) : Int) = I at *
        generalize ((Ls.length : Nat) : Int) = N at *
        simp -implicitDefEqProofs [t__law_spoiled_2, t__law_spoiled_4, t__law_spoiled_6, t__law_spoiled_8, t__law_spoiled_10, t__law_spoiled_12, t__law_spoiled_13, k1, k2, k3, k4, k5, fdivD_i, eL, em, ex, e1, s1, s2, a1, a2, -ltD_ii, -eqD_ii, -slD_l, -List.append_assoc, -List.cons_append]
      · rcases List.mem_append.mp hx with hx | hx
        · rcases List.mem_append.mp hx with hx | hx
          · exact lad_dec h x (List.mem_of_mem_take hx)
          · rw [List.mem_singleton.mp hx]; exact ⟨false, e2⟩
        · exact lad_dec h x (List.mem_of_mem_drop hx)
  obtain ⟨d, e, hd⟩ := main
  refine ⟨d, runF_ret ?_, hd⟩
  generalize PyData.list (Ls.map encL) = E at *
  simp -implicitDefEqProofs [m__law_spoiled, modD_i, e]

/-! ### the law -/
def flatT : D → Bool
  | .tuple ds => ds.all atomD
  | _ => false
theorem atom_map {F : Fr} {O O' : List Addr} {H : Hp} {v : V} {d : D} (h : atomD d = true) (r : Rp F O H v d) : Rp F O' H v d := by
  cases r with
  | non => exact .non
  | bl b => exact .bl b
  | int i => exact .int i
  | str x hx => exact .str x hx
  | lst _ _ => cases h
  | tup _ _ => cases h
  | dct _ _ _ => cases h
theorem atoms_map {F : Fr} {O O' : List Addr} {H : Hp} : ∀ {vs : List V} {ds : List D}, (∀ d ∈ ds, atomD d = true) → RpAll F O H vs ds → RpAll F O' H vs ds
  | _, [], _, r => by cases r; exact .nil
  | _, d :: ds, h, r => by cases r with | cons a b => exact .cons (atom_map (h d List.mem_cons_self) a) (atoms_map (fun x hx => h x (List.mem_cons_of_mem _ hx)) b)
theorem flat_map {F : Fr} {O' : List Addr} {H : Hp} {v : V} {d : D} (ho : ∀ b ∈ O', ∃ xs, H b = some (.lst xs)) (h : flatT d = true) (r : Rp F [] H v d) : Rp F O' H v d := by
  cases r <;> first | cases h | skip
  rename_i hs ha
  exact .tup ⟨fun z => (by obtain ⟨xs, e⟩ := ho _ z; rw [hs.2] at e; cases e), hs.2⟩ (atoms_map (fun d hd => List.all_eq_true.mp h d hd) ha)
theorem flats_map {F : Fr} {O' : List Addr} {H : Hp} (ho : ∀ b ∈ O', ∃ xs, H b = some (.lst xs)) : ∀ {vs : List V} {ds : List D}, (∀ d ∈ ds, flatT d = true) → RpAll F [] H vs ds → RpAll F O' H vs ds
  | _, [], _, r => by cases r; exact .nil
  | _, d :: ds, h, r => by cases r with | cons a b => exact .cons (flat_map ho (h d List.mem_cons_self) a) (flats_map ho (fun x hx => h x (List.mem_cons_of_mem _ hx)) b)
theorem RpLs.flat {F : Fr} {O' : List Addr} {H : Hp} (ho : ∀ b ∈ O', ∃ xs, H b = some (.lst xs)) : ∀ {xss : List (List V)} {L : List (List D)}, (∀ l ∈ L, ∀ t ∈ l, flatT t = true) → RpLs F [] H xss L → RpLs F O' H xss L
  | [], [], _, _ => trivial
  | xs :: xss, l :: L, h, r => ⟨flats_map ho (h l List.mem_cons_self) r.1, RpLs.flat ho (fun x hx => h x (List.mem_cons_of_mem _ hx)) r.2⟩
  | [], _ :: _, _, r => r.elim
  | _ :: _, [], _, r => r.elim
theorem Rp.fr {F : Fr} {O' : List Addr} {H : Hp} {v : V} {d : D} (ho : ∀ b ∈ O', H b = none) (r : Rp F [] H v d) : Rp F O' H v d := Rp.map (fun a u _ e => ⟨fun z => (by rw [ho a z] at e; cases e), e⟩) d v r
theorem snapB {F : Fr} {B : List Nat} {H : Hp} {σ : St} {ρ : MV.Env} (hl : σ.length = ρ.length) (h : ∀ (i : Nat) (d : D), ρ[i]? = some (some d) → i ∉ B → ∃ v, σ[i]? = some (some v) ∧ Rp F [] H v d) (hb : ∀ (i : Nat) (d : D), ρ[i]? = some (some d) → i ∈ B → ∃ v, σ[i]? = some (some v) ∧ Rs F [] H H v d) : Stt F H [] B [] [] H σ ρ where
  keep := Same.refl
  trk0 := by simp
  sub := by simp
  trk := by simp
  fz := fun i d e _ h2 => h i d e h2
  bor := fun i d e _ h2 => hb i d e h2
  ow := fun i d e hi => by simp at hi
  dist := fun i hi => by simp at hi
  len := hl
theorem BookAt.keep {F : Fr} {C : Addr} {H H' : Hp} {y A : Addr} {rs : List Addr} {a2 a3 kt e3 : Addr} {xss : List (List V)} {n : Nat} (s : ∀ b o, b ∈ [y, A, a2, a3, kt, e3] ++ rs → H b = some o → H' b = some o) (h : BookAt F C H y A rs a2 a3 kt e3 xss n) : BookAt F C H' y A rs a2 a3 kt e3 xss n :=
  ⟨h.ob.imp fun _ e => s _ _ (by simp) e, s _ _ (by simp) h.ax, Lss.keep (fun r hr o e => s r o (List.mem_append_right _ hr) e) h.ls, s _ _ (by simp) h.am, s _ _ (by simp) h.su, s _ _ (by simp) h.ky, s _ _ (by simp) h.tb⟩
structure Facts (S : D) (L : List (List D)) : Prop where
  l1 : h_l1 (rS S) = .ok (.list (L.map .list))
  n1 : 1 ≤ L.length
  nl : L.length ≤ 100
  l3 : h_l3 (rS S) = .ok (.bool true) ∨ (h_l3 (rS S) = .ok (.bool false) ∧ ∃ d, h_l4 (r4 S (.list (L.map .list))) = .ok d ∧ badI d)
  gd : goodI (.list (L.map .list))
  fi : g_finest [.list (L.map .list)] = .ok (.tuple (List.replicate L.length (.int 0)))
  l6 : h_l6 (r5 (.list ([true, false, false, false, false, false, false, false].map .bool)) (.bool true)) = .ok (.bool true)
  t6 : h_l6t (r6 (.list (L.map .list)) (bkD L)) = .ok false
  fl : ∀ l ∈ L, ∀ t ∈ l, flatT t = true
  t9 : h_t9 (r9 (.list (L.map .list)) (bkD L)) = .ret (.bool true)
/-! ### the facts -/
theorem facts (ns : List Int) (hns : ns.length ≤ 63) : ∃ L, Facts (.list (ns.map .int)) L := by
  obtain ⟨Ls, h, e1⟩ := ladders56 ns
  have hm := h.hm
  have hE := encL_list Ls
  have hlen : (Ls.map fun ls => ls.map encT).length = Ls.length := List.length_map _
  have hself : eqD (.list (Ls.map encL)) (.list (Ls.map encL)) = .ok (.bool true) := eqD_self (lads_shp 13 Ls)
  have hne : neD (.list (Ls.map encL)) (.list (Ls.map encL)) = .ok (.bool false) := neD_self (lads_shp 13 Ls)
  refine ⟨Ls.map fun ls => ls.map encT, ?_, by rw [hlen]; omega, by rw [hlen]; omega, ?_, ?_, ?_, ?_, ?_, ?_, ?_⟩
  · rw [hE]
    show (xCall g__law_ladders (aCons (xVar 0) aNil)) _ = _
    simp -implicitDefEqProofs [rS, e1]
  · have c5 := cell_at ns 5 (by omega)
    have e3 : h_l3 (rS (.list (ns.map .int))) = .ok (.bool (decide (cell ns (5 : Int).toNat % 4 = 0))) := by
      generalize PyData.list (ns.map .int) = S at *
      simp -implicitDefEqProofs [h_l3, rS, c5, modD_i]
    by_cases q : cell ns (5 : Int).toNat % 4 = 0
    · left; rw [e3, decide_eq_true q]
    · right
      refine ⟨by rw [e3, decide_eq_false q], ?_⟩
      have c6 := cell_at ns 6 (by omega)
      obtain ⟨d, e4, hb⟩ := spoiled56 h (cell ns (6 : Int).toNat)
      refine ⟨d, ?_, hb⟩
      rw [hE]
      generalize cell ns (6 : Int).toNat = C6 at *
      generalize PyData.list (Ls.map encL) = E at *
      generalize PyData.list (ns.map .int) = S at *
      simp -implicitDefEqProofs [h_l4, r4, c6, e4]
  · rw [hE]; exact good_lads h
  · rw [hE, hlen]
    have := finest56 (ds := Ls.map encL) (by simp; omega)
    rw [List.length_map] at this
    exact this
  · rfl
  · have hb := has_m (L := Ls.map fun ls => ls.map encT) (m := "ladders") (by decide +kernel) (by decide +kernel) (by decide +kernel)
    have hl := new_ladders (L := Ls.map fun ls => ls.map encT) (by rw [hlen]; omega)
    rw [hE] at hl ⊢
    have hnil : neD (.list []) (.list []) = .ok (.bool false) := neD_self rfl
    have xm : ∀ ρ : MV.Env, xMeth0 "Book" "ladders" g_Book_ladders (xVar 6) ρ = ((xVar 6 ρ).bind fun x => if obHas "Book" "ladders" x = true then g_Book_ladders [x] else .stuck) := fun ρ => rfl
    generalize bkD (Ls.map fun ls => ls.map encT) = B at *
    generalize PyData.list (Ls.map encL) = E at *
    simp -implicitDefEqProofs [h_l6t, r6, hne, hnil, xm, hb, hl]
  · intro l hl t ht
    obtain ⟨ls, hls, rfl⟩ := List.mem_map.mp hl
    obtain ⟨k, _, rfl⟩ := List.mem_map.mp ht
    show (k.map VV.enc).all atomD = true
    rw [List.all_map, List.all_eq_true]
    intro v _
    cases v <;> rfl
  · have hb1 := has_m (L := Ls.map fun ls => ls.map encT) (m := "ladders") (by decide +kernel) (by decide +kernel) (by decide +kernel)
    have hb2 := has_m (L := Ls.map fun ls => ls.map encT) (m := "rows") (by decide +kernel) (by decide +kernel) (by decide +kernel)
    have hb3 := has_m (L := Ls.map fun ls => ls.map encT) (m := "kept") (by decide +kernel) (by decide +kernel) (by decide +kernel)
    have hb4 := has_m (L := Ls.map fun ls => ls.map encT) (m := "table") (by decide +kernel) (by decide +kernel) (by decide +kernel)
    have hl := new_ladders (L := Ls.map fun ls => ls.map encT) (by rw [hlen]; omega)
    have hr := new_rows (L := Ls.map fun ls => ls.map encT)
    have hk := new_kept (L := Ls.map fun ls => ls.map encT)
    have ht := new_table h
    have hnil : eqD (.list []) (.list []) = .ok (.bool true) := eqD_self rfl
    have hlow : eqD (.list [.tuple (List.replicate Ls.length (.int 0))]) (.list [.tuple (List.replicate Ls.length (.int 0))]) = .ok (.bool true) := eqD_self (by simp [shp])
    rw [hE] at hl ⊢
    rw [hlen] at hk
    have xm : ∀ (m : Str) (g : List D → R D) (ρ : MV.Env), xMeth0 "Book" m g (xVar 6) ρ = ((xVar 6 ρ).bind fun x => if obHas "Book" m x = true then g [x] else .stuck) := fun _ _ ρ => rfl
    have xm2 : ∀ ρ : MV.Env, xMeth "Book" "table" g_Book_table (xVar 6) (aCons (xVar 7) aNil) ρ = ((xVar 6 ρ).bind fun x => if obHas "Book" "table" x = true then ((aCons (xVar 7) aNil) ρ).bind fun ds => g_Book_table (x :: ds) else .stuck) := fun ρ => rfl
    have e10 := lcL_all (ρ := r9 (.list (Ls.map encL)) (bkD (Ls.map fun ls => ls.map encT))) (bnd := bName 8) (ge := e_law_13_t9) (fun d : D => d) (fun _ => .int 0) (Ls.map encL) (fun d hd => ⟨_, rfl, rfl⟩)
    rw [List.map_id', List.map_const', List.length_map] at e10
    have hz : (Ls.map encL).length ≤ sizeLine := small (by simp; omega)
    unfold r9 at e10 ⊢
    generalize bkD (Ls.map fun ls => ls.map encT) = B at *
    generalize List.replicate Ls.length (PyData.int 0) = Z at *
    generalize Ls.map encL = LE at *
    simp -implicitDefEqProofs [h_t9, t_law_14_t9, e10, hz, xm, xm2, hb1, hb2, hb3, hb4, hl, hr, hk, ht, hself, hnil, hlow]

def g_law (ds : List D) : R D := match ds with
  | [.list xs] => match intsOf xs with
    | some ns => if ns.length ≤ 63 then .ok (.bool true) else .stuck
    | none => .stuck
  | _ => .stuck
theorem law_true : ∀ ns : List Int, ns.length ≤ 63 → g_law [.list (ns.map .int)] = .ok (.bool true) := by
  intro ns h
  simp only [g_law, intsOf_map, if_pos h]
theorem g_law_inv {ds : List D} (h : g_law ds ≠ .stuck) : ∃ ns : List Int, ns.length ≤ 63 ∧ ds = [.list (ns.map .int)] := by
  unfold g_law at h
  split at h
  · split at h
    · rename_i ns hns
      split at h
      · rename_i hl
        exact ⟨ns, hl, by rw [intsOf_eq hns]⟩
      · exact absurd rfl h
    · exact absurd rfl h
  · exact absurd rfl h
section
variable {P : Program} {w : World} {K : PySem.W.Frag} {mg : Str → Option Value} {base : Heap} {q_NoGrain q_NoLadder q_CubeError q_NoValue q_NoPick q_NoRow q_NoSuch q_NoText q_TooMuch q_Book : Addr} (T : Txt K mg q_NoGrain q_NoLadder q_CubeError q_NoValue q_NoPick q_NoRow q_NoSuch q_NoText q_TooMuch q_Book)
variable {f_is_ladder : Addr} {fd_is_ladder : FuncData} (c_is_ladder : DefOk P w K mg base "is_ladder" f_is_ladder fd_is_ladder ["thing"] [true] false g_is_ladder 5)
variable {f_finest : Addr} {fd_finest : FuncData} (c_finest : DefOk P w K mg base "finest" f_finest fd_finest ["ladders"] [true] false g_finest 1)
variable {f_Book_ladders : Addr} {fd_Book_ladders : FuncData} (c_Book_ladders : MthOk P w K mg base "Book" "ladders" q_Book f_Book_ladders fd_Book_ladders ["self"] [] true g_Book_ladders 1)
variable {f_Book_rows : Addr} {fd_Book_rows : FuncData} (c_Book_rows : MthOk P w K mg base "Book" "rows" q_Book f_Book_rows fd_Book_rows ["self"] [] true g_Book_rows 7)
variable {f_Book_kept : Addr} {fd_Book_kept : FuncData} (c_Book_kept : MthOk P w K mg base "Book" "kept" q_Book f_Book_kept fd_Book_kept ["self"] [] true g_Book_kept 1)
variable {f_Book_table : Addr} {fd_Book_table : FuncData} (c_Book_table : MthOk P w K mg base "Book" "table" q_Book f_Book_table fd_Book_table ["self", "grain"] [true] true g_Book_table 7)
variable {f__law_cell_at : Addr} {fd__law_cell_at : FuncData} (c__law_cell_at : DefOk P w K mg base "_law_cell_at" f__law_cell_at fd__law_cell_at ["_law_script", "_law_k"] [true, true] false g__law_cell_at 1)
variable {f__law_ladders : Addr} {fd__law_ladders : FuncData} (c__law_ladders : DefOk P w K mg base "_law_ladders" f__law_ladders fd__law_ladders ["_law_script"] [true] true g__law_ladders 3)
variable {f__law_spoiled : Addr} {fd__law_spoiled : FuncData} (c__law_spoiled : DefOk P w K mg base "_law_spoiled" f__law_spoiled fd__law_spoiled ["_law_ladders_here", "_law_cell_here"] [true, true] false g__law_spoiled 2)
variable {f_Book___init__ : Addr} {fd_Book___init__ : FuncData} (hm_Book___init__ : HM K q_Book "__init__" "Book.__init__" s_Book___init__ f_Book___init__ fd_Book___init__ ["self", "ladders"])
variable {f__law_outcome : Addr} {fd__law_outcome : FuncData} (hd__law_outcome : HD K mg "_law_outcome" s__law_outcome f__law_outcome fd__law_outcome ["_law_thing"])
include T c_is_ladder c_finest c_Book_ladders c_Book_rows c_Book_kept c_Book_table c__law_cell_at c__law_ladders c__law_spoiled hm_Book___init__ hd__law_outcome
theorem ok_law {f : Addr} {fd : FuncData} (F : Fun K "law" "law" s_law f fd) : FnOk P w K mg base (L2N.CX P w) 9 f fd ["_law_script"] (spM ⟨K, P, w, mg⟩ mg [true] false g_law) := by
  refine okXN F sc_law (fun vs H Q E ⟨O, ds, ht, r, _⟩ => by rw [(rpk_len r).1]; rfl) fun cdv A outer s H vs Q E hr ⟨O, ds, ht, r, q⟩ => ?_
  obtain ⟨ns, hns, rfl⟩ := g_law_inv (ds := ds) fun z => by rw [z] at q; exact q
  rw [law_true ns hns] at q
  obtain ⟨L, X⟩ := facts ns hns
  have g0 : Gd (cxOf (L2N.CX P w) P w K mg base N_law "law" (defScope s_law) f cdv A outer s H E) (WD E) 8 := ⟨L2N.takes_of rfl rfl rfl rfl, passes_of rfl, rfl, sc_law.nd, hr⟩
  have out := ok_outcome (base := base) T c_is_ladder c_finest c_Book_ladders c_Book_rows c_Book_kept c_Book_table c__law_cell_at c__law_ladders c__law_spoiled hm_Book___init__ hd__law_outcome
  obtain ⟨v0, hv0, rz0⟩ : ∃ v0, vs = [v0] ∧ Rp ⟨K, P, w, mg⟩ [] H v0 (.list (ns.map .int)) := by
    match vs, r with
    | [v0], r =>
      obtain ⟨p, xs, e, h1, h2⟩ := (show Rs ⟨K, P, w, mg⟩ O H H v0 (.list (ns.map .int)) by have := r.1; rwa [if_pos rfl] at this).lst
      refine ⟨v0, rfl, ?_⟩
      rw [e]
      refine .lst ⟨by simp, h1⟩ ?_
      rw [rp_ints h2]
      exact ints_rp ns
    | [], r => exact r.elim
    | _ :: _ :: _, r => exact r.2.elim
  subst hv0
  refine ⟨_, pss_cons (ps_set (i := 1) g0.nd rfl (.inl rfl) (PX.use (W := WD E) (B := []) (Ω := []) (g := h_l1) (PO.x (po_c g0 c__law_ladders rfl rfl (pak_b (pb_var (i := 0) rfl (.inl rfl)) pak_nil)))))
    (pss_cons (ps_setDc (o := 2) (i := 8) (x := "_law_ladder_here") rfl rfl (sw_true rfl rfl rfl (by decide +kernel)) g0.hc g0.nd rfl (pe_var (i := 1) rfl (.inl rfl)) (fun σ H Q Q' ⟨v, e, q⟩ k => ⟨v, e, k _ _ q⟩) (blkOk_by (own := [("_law_ladder_here", 8)]) (N := N_law) (sc := defScope s_law) (by decide +kernel)) (fun _ _ _ _ _ => pg_name (i := 8) g0.nd rfl (.inl rfl)) (fun _ _ _ _ _ => pe_callTy (T := "list") call_list_of rfl T.n_list (by decide +kernel) (pa_cons (pe_var (i := 8) rfl (.inl rfl)) pa_nil)))
    (pss_cons (ps_set (i := 3) g0.nd rfl (.inl rfl) (PX.use (W := WD E) (B := []) (Ω := []) (g := h_l3) (px_cmp (op_eqD g0.u64) (nomark _) nox_eq rb_eq (PX.b (px_op op_modN nox_mod rb_mod (PX.b (px_c g0 c__law_cell_at rfl rfl (pak_b (pb_var (i := 0) rfl (.inl rfl)) (pak_b (PX.b px_int) pak_nil)))) (PX.b px_int))) (PX.b px_int))))
    (pss_cons (ps_if (PTx.use (W := WD E) (B := []) (Ω := []) (g := h_l3t) (ptx_not (ptx_val (px_var (i := 3) rfl (.inl rfl) rfl rfl)))) (pss_one (ps_set (i := 2) g0.nd rfl (.inl rfl) (PX.use (W := WD E) (B := []) (Ω := []) (g := h_l4) (px_c g0 c__law_spoiled rfl rfl (pak_b (pb_var (i := 2) rfl (.inl rfl)) (pak_b (PX.b (px_c g0 c__law_cell_at rfl rfl (pak_b (pb_var (i := 0) rfl (.inl rfl)) (pak_b (PX.b px_int) pak_nil)))) pak_nil)))))) pss_nil)
    (pss_cons (ps_asg (pe_callS out g0.hr rfl hd__law_outcome.m hd__law_outcome.k hd__law_outcome.b (fun σ => L2N.passAt g0.tk σ) (pa_cons (pe_var (i := 2) rfl (.inl rfl)) pa_nil)) (pg_tup (n := 3) rfl (pgs_cons (pg_name (i := 4) g0.nd rfl (.inl rfl)) (pgs_cons (pg_name (i := 5) g0.nd rfl (.inl rfl)) (pgs_cons (pg_name (i := 6) g0.nd rfl (.inl rfl)) pgs_nil)))))
    (pss_cons (ps_if (PTx.use (W := WD E) (B := []) (Ω := []) (g := h_l5t) (ptx_not (ptx_val (px_var (i := 3) rfl (.inl rfl) rfl rfl)))) (pss_one (ps_ret (PX.use (W := WD E) (B := []) (Ω := []) (g := h_l6) (px_and (px_var (i := 5) rfl (.inl rfl) rfl rfl) (px_one (px_cmp (op_eqD g0.u64) (nomark _) nox_eq rb_eq (pb_var (i := 4) rfl (.inl rfl)) (PX.b (PO.x (po_lc (own := [("_law_k", 9)]) g0 (PIs.c (pis_range1 rfl T.n_range (paf_cons px_int paf_nil))) (blkOk_by (own := [("_law_k", 9)]) (N := N_law) (sc := defScope s_law) (by decide +kernel)) (tgu_name rfl rfl) rfl rfl (fun _ _ _ _ _ => pg_name (i := 9) g0.nd rfl (.inl rfl)) (fun _ _ _ _ _ => ptsx_nil) (fun _ _ _ _ _ => (px_cmp (op_eqD (g0.blk _ _ _ _ _).u64) (nomark _) nox_eq rb_eq (pb_var (i := 9) rfl (.inl rfl)) (PX.b px_int)))))))))))) pss_nil)
    (pss_cons (ps_if (PTx.use (W := WD E) (B := [6]) (Ω := []) (g := h_l6t) (ptx_w (pwx_or (ptx_cmp (op_neD g0.u64) (nomark _) nox_ne rb_ne (pb_var (i := 4) rfl (.inl rfl)) (PX.b (PO.x (po_lst paf_nil)))) (pwx_or (ptx_cmp (op_neD g0.u64) (nomark _) nox_ne rb_ne (pb_var (i := 2) rfl (.inl rfl)) (pb_var (i := 1) rfl (.inl rfl))) (pwx_or1 (ptx_cmp (op_neD g0.u64) (nomark _) nox_ne rb_ne (PX.b (PO.x (po_m0 g0 c_Book_ladders rfl (pb_var (i := 6) rfl (.inl rfl))))) (pb_var (i := 1) rfl (.inl rfl)))))))) (pss_one (ps_ret pe_bl)) pss_nil)
    (pss_cons (ps_expr (pe_bm0 PySem.F.plainAttrs_list PySem.F.slot_list_clear PySem.F.type_list_clear mt_clear (pe_ix ix_list (pe_var (i := 2) rfl (.inl rfl)) pe_int (fun _ _ => rfl))))
    (pss_cons (ps_expr (pe_bm0 PySem.F.plainAttrs_list PySem.F.slot_list_clear PySem.F.type_list_clear mt_clear (pe_var (i := 2) rfl (.inl rfl))))
    (show PYs _ (WD E) false [6] [] [] [] _ h_t9 from (pys_cons (py_set (Ω' := []) (i := 7) g0 rfl rfl rfl (.inl rfl) (px_ty call_tuple_of nox_tup rc_tup rfl T.n_tuple (by decide +kernel) (pak_b (PX.b (PO.x (po_lc (own := [("_law_ladder_here", 8)]) g0 (pic_b (pb_var (i := 1) rfl (.inl rfl))) (blkOk_by (own := [("_law_ladder_here", 8)]) (N := N_law) (sc := defScope s_law) (by decide +kernel)) (tgu_name rfl rfl) rfl rfl (fun _ _ _ _ _ => pg_name (i := 8) g0.nd rfl (.inl rfl)) (fun _ _ _ _ _ => ptsx_nil) (fun _ _ _ _ _ => px_int)))) pak_nil))) (pys_one (py_ret rfl (px_and (px_cmp (op_eqD g0.u64) (nomark _) nox_eq rb_eq (PX.b (PO.x (po_m0 g0 c_Book_ladders rfl (pb_var (i := 6) rfl (.inl rfl))))) (pb_var (i := 1) rfl (.inl rfl))) (px_and (px_cmp (op_eqD g0.u64) (nomark _) nox_eq rb_eq (PX.b (PO.x (po_m0 g0 c_Book_rows rfl (pb_var (i := 6) rfl (.inl rfl))))) (PX.b (PO.x (po_lst paf_nil)))) (px_and (px_cmp (op_eqD g0.u64) (nomark _) nox_eq rb_eq (PX.b (PO.x (po_m0 g0 c_Book_kept rfl (pb_var (i := 6) rfl (.inl rfl))))) (PX.b (PO.x (po_lst (paf_cons (px_var (i := 7) rfl (.inl rfl) rfl rfl) paf_nil))))) (px_one (px_cmp (op_eqD g0.u64) (nomark _) nox_eq rb_eq (PX.b (PO.x (po_m g0 c_Book_table rfl (pb_var (i := 6) rfl (.inl rfl)) (pak_b (pb_var (i := 7) rfl (.inl rfl)) pak_nil)))) (PX.b (PO.x (po_lst paf_nil)))))))))))))))))))), ?_⟩
  have sn0 : ∀ {H' : Hp} {σ : St}, Same H H' → σ.length = 10 → σ[0]? = some (some v0) → Stt ⟨K, P, w, mg⟩ H' [] [] [] [] H' σ (rS (.list (ns.map .int))) := fun {H' σ} s hl e0 => snap (by rw [hl]; rfl) fun i d e => by
    rcases i with _ | _ | _ | _ | _ | _ | _ | _ | _ | _ | i <;> cases e
    exact ⟨v0, e0, rz0.same s⟩
  refine ⟨H, [], [], _, sn0 Same.refl rfl rfl, ?_⟩
  rw [X.l1]
  intro v1 H1 s1 r1
  refine ⟨by show 8 < 10; decide, v1, rfl, ?_⟩
  obtain ⟨a, xs1, rfl, hs1, ha1⟩ := (show Rs ⟨K, P, w, mg⟩ [] H1 H1 v1 (.list (L.map .list)) from .inl r1).lst
  obtain ⟨xss, q1, q2⟩ := lads_of ha1
  have hlv := ha1.length
  refine ⟨_, _, xss, rfl, .inl hs1, q1, by rw [hlv, List.length_map]; have := X.nl; omega, fun A rs H2 hA hrs nd s2 eA ls => ?_⟩
  have s02 := Same.tr s1 s2
  have q2' := q2.same s2
  have rT : Rp ⟨K, P, w, mg⟩ [] H2 (.ref A) (.list (L.map .list)) := .lst ⟨by simp, .inl eA⟩ (lads_back (by simp) ls q2')
  refine ⟨H2, [], [], _, sn0 s02 rfl rfl, ?_⟩
  obtain ⟨r0, rest, x0, rfl, er0⟩ : ∃ r0 rest x0, rs = r0 :: rest ∧ H2 r0 = some (.lst x0) := by
    have hl := q2.len
    have := X.n1
    cases ls with
    | nil => simp at hl; omega
    | cons h _ => exact ⟨_, _, _, rfl, h⟩
  have hA0 : A ≠ r0 := fun z => (hrs r0 List.mem_cons_self).2 z.symm
  rcases X.l3 with el | ⟨el, d4, e4, hb4⟩
  · rw [el]
    intro v3 H3 s3 r3
    cases r3
    refine ⟨H3, [], [], [none, none, none, some (.bool true), none, none, none, none, none, none], snap rfl fun i d e => ?_, ?_⟩
    · rcases i with _ | _ | _ | _ | _ | _ | _ | _ | _ | _ | i <;> cases e
      exact ⟨_, rfl, .bl _⟩
    intro b H4 s4 eb
    have eb : b = false := eb
    subst eb
    refine iteF ?_
    have s24 := Same.tr s3 s4
    refine ⟨.ref A, rfl, .ref A, _, rfl, rT.same s24, .inr ⟨L, rfl, X.gd, X.nl, X.fi, fun r e1 y A' rs' a2 a3 kt e3 xss' H5 s5 hr he hB hx hf nd' => ?_⟩⟩
    refine ⟨r, _, rfl, .inl (.inl hr), rfl, _, _, rfl, _, _, rfl, _, _, rfl, rfl, ?_⟩
    refine ⟨H5, [], [], [none, none, none, some (.bool true), none, none, none, none, none, none], snap rfl fun i d e => ?_, ?_⟩
    · rcases i with _ | _ | _ | _ | _ | _ | _ | _ | _ | _ | i <;> cases e
      exact ⟨_, rfl, .bl _⟩
    intro b H6 s6 eb
    have eb : b = false := eb
    subst eb
    refine iteF ?_
    have s46 := Same.tr s5 s6
    have s26 := Same.tr s24 s46
    have bk6 : ∀ {H' : Hp}, Same H6 H' → Rs ⟨K, P, w, mg⟩ [] H' H' (.ref y) (bkD L) := fun s => (hB.same (Same.tr s6 s)).rs T.C_Book.g (by simp) (by simp) (by simp) (hx.same (Same.tr s6 s))
    refine ⟨H6, [], [], r6 (.list (L.map .list)) (bkD L), snapB rfl (fun i d e hi => ?_) (fun i d e hi => ?_), ?_⟩
    · rcases i with _ | _ | _ | _ | _ | _ | _ | _ | _ | _ | i <;> cases e
      · exact ⟨_, rfl, ((r1.same s2).same s26)⟩
      · exact ⟨_, rfl, rT.same s26⟩
      · exact ⟨_, rfl, .lst ⟨by simp, .inl (s6 _ _ he)⟩ .nil⟩
      · simp at hi
    · rcases i with _ | _ | _ | _ | _ | _ | _ | _ | _ | _ | i <;> cases e <;> first | (simp at hi; done) | exact ⟨_, rfl, bk6 Same.refl⟩
    rw [X.t6]
    intro b H7 s7 eb
    have eb : b = false := eb
    subst eb
    refine iteF ?_
    have s27 := Same.tr s26 s7
    have s57 := Same.tr s6 s7
    refine ⟨.ref A, rfl, A, _, 0, .ref r0, rfl, rfl, .inl (.inl (s27 _ _ eA)), by simp [atI, ixN], .inl ⟨rfl, _, .inl (.inl (s27 _ _ er0))⟩, r0, _, rfl, rfl, s27 _ _ er0, ?_⟩
    refine ⟨.ref A, rfl, .inl ⟨rfl, _, .inl (.inl ((upd_ne hA0).trans (s27 _ _ eA)))⟩, A, _, rfl, rfl, (upd_ne hA0).trans (s27 _ _ eA), ?_⟩
    have ge9 : Ge [A, r0] H7 (upd (upd H7 r0 (.lst [])) A (.lst [])) := fun b o hb e => by
      simp only [List.mem_cons, List.not_mem_nil, or_false, not_or] at hb
      rw [upd_ne hb.1, upd_ne hb.2]; exact e
    have nAr : ∀ b ∈ [A, r0], ∃ xs, H4 b = some (.lst xs) := fun b hb => by
      simp only [List.mem_cons, List.not_mem_nil, or_false] at hb
      rcases hb with rfl | rfl
      · exact ⟨_, s24 _ _ eA⟩
      · exact ⟨_, s24 _ _ er0⟩
    have r19 : Rp ⟨K, P, w, mg⟩ [] (upd (upd H7 r0 (.lst [])) A (.lst [])) (.ref a) (.list (L.map .list)) := by
      have z : Rp ⟨K, P, w, mg⟩ [A, r0] H1 (.ref a) (.list (L.map .list)) := Rp.fr (fun b hb => by
        simp only [List.mem_cons, List.not_mem_nil, or_false] at hb
        rcases hb with rfl | rfl
        · exact hA
        · exact (hrs _ List.mem_cons_self).1) r1
      exact (((z.same s2).same s27).ge ge9).sub (by simp)
    have bk9 : Rs ⟨K, P, w, mg⟩ [] (upd (upd H7 r0 (.lst [])) A (.lst [])) (upd (upd H7 r0 (.lst [])) A (.lst [])) (.ref y) (bkD L) := by
      have hx9 : RpLs ⟨K, P, w, mg⟩ [] (upd (upd H7 r0 (.lst [])) A (.lst [])) xss' L := by
        have z := hx.flat (O' := [A, r0]) (fun b hb => by obtain ⟨xs, e⟩ := nAr b hb; exact ⟨xs, s5 _ _ e⟩) X.fl
        exact ((z.same s57).ge ge9).sub (by simp)
      refine ((hB.same s57).keep fun b o hb e => ge9 b o (fun z => ?_) e).rs T.C_Book.g (by simp) (by simp) (by simp) hx9
      obtain ⟨xs, e4⟩ := nAr b z
      simp only [List.mem_append, List.mem_cons, List.not_mem_nil, or_false] at hb
      have hf' : ∀ c, (c = y ∨ c = A' ∨ c = a2 ∨ c = a3 ∨ c = e3) ∨ c ∈ rs' → H4 c = none := fun c hc => hf c (by simpa [or_assoc] using hc)
      rcases hb with (rfl | rfl | rfl | rfl | rfl | rfl) | hb
      · rw [hf' _ (by simp)] at e4; cases e4
      · rw [hf' _ (by simp)] at e4; cases e4
      · rw [hf' _ (by simp)] at e4; cases e4
      · rw [hf' _ (by simp)] at e4; cases e4
      · have := hB.ky; rw [s5 _ _ e4] at this; cases this
      · rw [hf' _ (by simp)] at e4; cases e4
      · rw [hf' _ (.inr hb)] at e4; cases e4
    refine ⟨_, [], [], r9 (.list (L.map .list)) (bkD L), snapB rfl (fun i d e hi => ?_) (fun i d e hi => ?_), ?_⟩
    · rcases i with _ | _ | _ | _ | _ | _ | _ | _ | _ | _ | i <;> cases e
      · exact ⟨_, rfl, r19⟩
      · simp at hi
    · rcases i with _ | _ | _ | _ | _ | _ | _ | _ | _ | _ | i <;> cases e <;> first | (simp at hi; done) | exact ⟨_, rfl, bk9⟩
    rw [X.t9]
    intro v H10 s10 rv
    cases rv
    refine q _ _ (fun b o e => s10 _ _ (ge9 _ _ (fun z => ?_) (s27 _ _ (s02 _ _ e)))) (.bl _)
    obtain ⟨xs, e4⟩ := nAr b z
    simp only [List.mem_cons, List.not_mem_nil, or_false] at z
    rcases z with rfl | rfl
    · rw [s1 _ _ e] at hA; cases hA
    · have := (hrs _ List.mem_cons_self).1; rw [s1 _ _ e] at this; cases this
  · rw [el]
    intro v3 H3 s3 r3
    cases r3
    refine ⟨H3, [], [], [none, none, none, some (.bool false), none, none, none, none, none, none], snap rfl fun i d e => ?_, ?_⟩
    · rcases i with _ | _ | _ | _ | _ | _ | _ | _ | _ | _ | i <;> cases e
      exact ⟨_, rfl, .bl _⟩
    intro b H4 s4 eb
    have eb : b = true := eb
    subst eb
    refine iteT ?_
    have s24 := Same.tr s3 s4
    refine ⟨H4, [], [], r4 (.list (ns.map .int)) (.list (L.map .list)), snap rfl fun i d e => ?_, ?_⟩
    · rcases i with _ | _ | _ | _ | _ | _ | _ | _ | _ | _ | i <;> cases e
      · exact ⟨_, rfl, (rz0.same s02).same s24⟩
      · exact ⟨_, rfl, rT.same s24⟩
    rw [e4]
    intro v4 H5 s5 r4
    refine ⟨v4, rfl, v4, d4, rfl, r4, .inl ⟨hb4, fun r H6 s6 rr => ?_⟩⟩
    cases rr with
    | tup hs ha =>
    cases ha with
    | cons k1 ha =>
    cases ha with
    | cons k2 ha =>
    cases ha with
    | cons k3 ha =>
    cases ha
    cases k2
    refine ⟨_, _, rfl, .inl (.inl hs.2), rfl, _, _, rfl, _, _, rfl, _, _, rfl, rfl, ?_⟩
    refine ⟨H6, [], [], [none, none, none, some (.bool false), none, none, none, none, none, none], snap rfl fun i d e => ?_, ?_⟩
    · rcases i with _ | _ | _ | _ | _ | _ | _ | _ | _ | _ | i <;> cases e
      exact ⟨_, rfl, .bl _⟩
    intro b H7 s7 eb
    have eb : b = true := eb
    subst eb
    refine iteT ?_
    refine ⟨H7, [], [], r5 (.list ([true, false, false, false, false, false, false, false].map .bool)) (.bool true), snap rfl fun i d e => ?_, ?_⟩
    · rcases i with _ | _ | _ | _ | _ | _ | _ | _ | _ | _ | i <;> cases e
      · exact ⟨_, rfl, k1.same s7⟩
      · exact ⟨_, rfl, .bl _⟩
    rw [X.l6]
    intro v H8 s8 rv
    cases rv
    exact q _ _ (Same.tr s02 (Same.tr s24 (Same.tr s5 (Same.tr s6 (Same.tr s7 s8))))) (.bl _)
end

theorem all_mk {l : PySem.W.OpenLaw} {w : World} {K : PySem.W.Frag} {h : Heap} {mg : Str → Option Value} {fa : Addr} (X : K.In h) (G : h.Ns mainGlobals mg) (hfa : mg "law" = some (.ref fa))
    {q_NoGrain q_NoLadder q_CubeError q_NoValue q_NoPick q_NoRow q_NoSuch q_NoText q_TooMuch q_Book : Addr} {f1 f2 f3 f4 f5 f6 f7 f8 f9 f10 f11 f12 f13 f14 f15 f16 f17 f18 f19 f20 f21 f22 f23 f24 f25 f26 f27 f28 f29 : Addr} {od1 an1 od2 an2 od3 an3 od4 an4 od5 an5 od6 an6 od7 an7 od8 an8 od9 an9 od10 an10 od11 an11 od12 an12 od13 an13 od14 an14 od15 an15 od16 an16 od17 an17 od18 an18 od19 an19 od20 an20 od21 an21 od22 an22 od23 an23 od24 an24 od25 an25 od26 an26 od27 an27 od28 an28 od29 an29 : Option Addr} {sl1 sl2 sl3 sl4 sl5 sl6 sl7 sl8 sl9 sl10 sl11 sl12 sl13 sl14 sl15 sl16 sl17 sl18 sl19 sl20 sl21 sl22 sl23 sl24 sl25 sl26 sl27 sl28 sl29 : Array (Option Value)} {oc1 kV1 dc1 pm1 cd1 ct1 oc2 kV2 dc2 pm2 cd2 ct2 oc3 kV3 dc3 pm3 cd3 ct3 oc4 kV4 dc4 pm4 cd4 ct4 oc5 kV5 dc5 pm5 cd5 ct5 oc6 kV6 dc6 pm6 cd6 ct6 oc7 kV7 dc7 pm7 cd7 ct7 oc8 kV8 dc8 pm8 cd8 ct8 oc9 kV9 dc9 pm9 cd9 ct9 oc10 kV10 dc10 pm10 cd10 ct10 oc11 kV11 dc11 pm11 cd11 ct11 oc12 kV12 dc12 pm12 cd12 ct12 oc13 kV13 dc13 pm13 cd13 ct13 oc14 kV14 dc14 pm14 cd14 ct14 oc15 kV15 dc15 pm15 cd15 ct15 oc16 kV16 dc16 pm16 cd16 ct16 oc17 kV17 dc17 pm17 cd17 ct17 oc18 kV18 dc18 pm18 cd18 ct18 oc19 kV19 dc19 pm19 cd19 ct19 oc20 kV20 dc20 pm20 cd20 ct20 oc21 kV21 dc21 pm21 cd21 ct21 oc22 kV22 dc22 pm22 cd22 ct22 oc23 kV23 dc23 pm23 cd23 ct23 oc24 kV24 dc24 pm24 cd24 ct24 oc25 kV25 dc25 pm25 cd25 ct25 oc26 kV26 dc26 pm26 cd26 ct26 oc27 kV27 dc27 pm27 cd27 ct27 oc28 kV28 dc28 pm28 cd28 ct28 oc29 kV29 dc29 pm29 cd29 ct29 : Value} {tk_FIGURES tk_LETTERS tk_MOST_AXES tk_MOST_LINES tk_MOST_PLACES tk_MOST_SIGNS : Tok}
    (a1 : PySem.W.nsIn K mainGlobals "is_whole" = some (some (.ref f1))) (l1 : K.lookup f1 = some ⟨oc1, od1, .func (PySem.W.fnOf "is_whole" "is_whole" (defArgs s_is_whole) (defBody s_is_whole) (defScope s_is_whole) .none kV1 dc1 pm1 an1 cd1 ct1), sl1⟩) (d1 : PySem.W.codeIn K cd1 "is_whole" = true) (k1 : PySem.W.keepIn K (.ref f1) = true)
    (a2 : PySem.W.nsIn K mainGlobals "is_word" = some (some (.ref f2))) (l2 : K.lookup f2 = some ⟨oc2, od2, .func (PySem.W.fnOf "is_word" "is_word" (defArgs s_is_word) (defBody s_is_word) (defScope s_is_word) .none kV2 dc2 pm2 an2 cd2 ct2), sl2⟩) (d2 : PySem.W.codeIn K cd2 "is_word" = true) (k2 : PySem.W.keepIn K (.ref f2) = true)
    (a3 : PySem.W.nsIn K mainGlobals "is_value" = some (some (.ref f3))) (l3 : K.lookup f3 = some ⟨oc3, od3, .func (PySem.W.fnOf "is_value" "is_value" (defArgs s_is_value) (defBody s_is_value) (defScope s_is_value) .none kV3 dc3 pm3 an3 cd3 ct3), sl3⟩) (d3 : PySem.W.codeIn K cd3 "is_value" = true) (k3 : PySem.W.keepIn K (.ref f3) = true)
    (a4 : PySem.W.nsIn K mainGlobals "value_key" = some (some (.ref f4))) (l4 : K.lookup f4 = some ⟨oc4, od4, .func (PySem.W.fnOf "value_key" "value_key" (defArgs s_value_key) (defBody s_value_key) (defScope s_value_key) .none kV4 dc4 pm4 an4 cd4 ct4), sl4⟩) (d4 : PySem.W.codeIn K cd4 "value_key" = true) (k4 : PySem.W.keepIn K (.ref f4) = true)
    (a5 : PySem.W.nsIn K mainGlobals "place_key" = some (some (.ref f5))) (l5 : K.lookup f5 = some ⟨oc5, od5, .func (PySem.W.fnOf "place_key" "place_key" (defArgs s_place_key) (defBody s_place_key) (defScope s_place_key) .none kV5 dc5 pm5 an5 cd5 ct5), sl5⟩) (d5 : PySem.W.codeIn K cd5 "place_key" = true) (k5 : PySem.W.keepIn K (.ref f5) = true)
    (a6 : PySem.W.nsIn K mainGlobals "in_order" = some (some (.ref f6))) (l6 : K.lookup f6 = some ⟨oc6, od6, .func (PySem.W.fnOf "in_order" "in_order" (defArgs s_in_order) (defBody s_in_order) (defScope s_in_order) .none kV6 dc6 pm6 an6 cd6 ct6), sl6⟩) (d6 : PySem.W.codeIn K cd6 "in_order" = true) (k6 : PySem.W.keepIn K (.ref f6) = true)
    (a7 : PySem.W.nsIn K mainGlobals "is_line" = some (some (.ref f7))) (l7 : K.lookup f7 = some ⟨oc7, od7, .func (PySem.W.fnOf "is_line" "is_line" (defArgs s_is_line) (defBody s_is_line) (defScope s_is_line) .none kV7 dc7 pm7 an7 cd7 ct7), sl7⟩) (d7 : PySem.W.codeIn K cd7 "is_line" = true) (k7 : PySem.W.keepIn K (.ref f7) = true)
    (a8 : PySem.W.nsIn K mainGlobals "go_together" = some (some (.ref f8))) (l8 : K.lookup f8 = some ⟨oc8, od8, .func (PySem.W.fnOf "go_together" "go_together" (defArgs s_go_together) (defBody s_go_together) (defScope s_go_together) .none kV8 dc8 pm8 an8 cd8 ct8), sl8⟩) (d8 : PySem.W.codeIn K cd8 "go_together" = true) (k8 : PySem.W.keepIn K (.ref f8) = true)
    (a9 : PySem.W.nsIn K mainGlobals "are_lines" = some (some (.ref f9))) (l9 : K.lookup f9 = some ⟨oc9, od9, .func (PySem.W.fnOf "are_lines" "are_lines" (defArgs s_are_lines) (defBody s_are_lines) (defScope s_are_lines) .none kV9 dc9 pm9 an9 cd9 ct9), sl9⟩) (d9 : PySem.W.codeIn K cd9 "are_lines" = true) (k9 : PySem.W.keepIn K (.ref f9) = true)
    (a10 : PySem.W.nsIn K mainGlobals "is_ladder" = some (some (.ref f10))) (l10 : K.lookup f10 = some ⟨oc10, od10, .func (PySem.W.fnOf "is_ladder" "is_ladder" (defArgs s_is_ladder) (defBody s_is_ladder) (defScope s_is_ladder) .none kV10 dc10 pm10 an10 cd10 ct10), sl10⟩) (d10 : PySem.W.codeIn K cd10 "is_ladder" = true) (k10 : PySem.W.keepIn K (.ref f10) = true)
    (a11 : PySem.W.nsIn K mainGlobals "whole_of" = some (some (.ref f11))) (l11 : K.lookup f11 = some ⟨oc11, od11, .func (PySem.W.fnOf "whole_of" "whole_of" (defArgs s_whole_of) (defBody s_whole_of) (defScope s_whole_of) .none kV11 dc11 pm11 an11 cd11 ct11), sl11⟩) (d11 : PySem.W.codeIn K cd11 "whole_of" = true) (k11 : PySem.W.keepIn K (.ref f11) = true)
    (a12 : PySem.W.nsIn K mainGlobals "is_level" = some (some (.ref f12))) (l12 : K.lookup f12 = some ⟨oc12, od12, .func (PySem.W.fnOf "is_level" "is_level" (defArgs s_is_level) (defBody s_is_level) (defScope s_is_level) .none kV12 dc12 pm12 an12 cd12 ct12), sl12⟩) (d12 : PySem.W.codeIn K cd12 "is_level" = true) (k12 : PySem.W.keepIn K (.ref f12) = true)
    (a13 : PySem.W.nsIn K mainGlobals "is_grain" = some (some (.ref f13))) (l13 : K.lookup f13 = some ⟨oc13, od13, .func (PySem.W.fnOf "is_grain" "is_grain" (defArgs s_is_grain) (defBody s_is_grain) (defScope s_is_grain) .none kV13 dc13 pm13 an13 cd13 ct13), sl13⟩) (d13 : PySem.W.codeIn K cd13 "is_grain" = true) (k13 : PySem.W.keepIn K (.ref f13) = true)
    (a14 : PySem.W.nsIn K mainGlobals "finest" = some (some (.ref f14))) (l14 : K.lookup f14 = some ⟨oc14, od14, .func (PySem.W.fnOf "finest" "finest" (defArgs s_finest) (defBody s_finest) (defScope s_finest) .none kV14 dc14 pm14 an14 cd14 ct14), sl14⟩) (d14 : PySem.W.codeIn K cd14 "finest" = true) (k14 : PySem.W.keepIn K (.ref f14) = true)
    (a15 : PySem.W.findIn K (.ref q_Book) "ladders" = some (some (.ref f15))) (l15 : K.lookup f15 = some ⟨oc15, od15, .func (PySem.W.fnOf "ladders" "Book.ladders" (defArgs s_Book_ladders) (defBody s_Book_ladders) (defScope s_Book_ladders) .none kV15 dc15 pm15 an15 cd15 ct15), sl15⟩) (d15 : PySem.W.codeIn K cd15 "Book.ladders" = true) (k15 : PySem.W.keepIn K (.ref f15) = true) (i15 : PySem.W.isFn K (.ref f15) = true)
    (a16 : PySem.W.findIn K (.ref q_Book) "rows" = some (some (.ref f16))) (l16 : K.lookup f16 = some ⟨oc16, od16, .func (PySem.W.fnOf "rows" "Book.rows" (defArgs s_Book_rows) (defBody s_Book_rows) (defScope s_Book_rows) .none kV16 dc16 pm16 an16 cd16 ct16), sl16⟩) (d16 : PySem.W.codeIn K cd16 "Book.rows" = true) (k16 : PySem.W.keepIn K (.ref f16) = true) (i16 : PySem.W.isFn K (.ref f16) = true)
    (a17 : PySem.W.findIn K (.ref q_Book) "kept" = some (some (.ref f17))) (l17 : K.lookup f17 = some ⟨oc17, od17, .func (PySem.W.fnOf "kept" "Book.kept" (defArgs s_Book_kept) (defBody s_Book_kept) (defScope s_Book_kept) .none kV17 dc17 pm17 an17 cd17 ct17), sl17⟩) (d17 : PySem.W.codeIn K cd17 "Book.kept" = true) (k17 : PySem.W.keepIn K (.ref f17) = true) (i17 : PySem.W.isFn K (.ref f17) = true)
    (a18 : PySem.W.findIn K (.ref q_Book) "table_known" = some (some (.ref f18))) (l18 : K.lookup f18 = some ⟨oc18, od18, .func (PySem.W.fnOf "table_known" "Book.table_known" (defArgs s_Book_table_known) (defBody s_Book_table_known) (defScope s_Book_table_known) .none kV18 dc18 pm18 an18 cd18 ct18), sl18⟩) (d18 : PySem.W.codeIn K cd18 "Book.table_known" = true) (k18 : PySem.W.keepIn K (.ref f18) = true) (i18 : PySem.W.isFn K (.ref f18) = true)
    (a19 : PySem.W.findIn K (.ref q_Book) "table" = some (some (.ref f19))) (l19 : K.lookup f19 = some ⟨oc19, od19, .func (PySem.W.fnOf "table" "Book.table" (defArgs s_Book_table) (defBody s_Book_table) (defScope s_Book_table) .none kV19 dc19 pm19 an19 cd19 ct19), sl19⟩) (d19 : PySem.W.codeIn K cd19 "Book.table" = true) (k19 : PySem.W.keepIn K (.ref f19) = true) (i19 : PySem.W.isFn K (.ref f19) = true)
    (a20 : PySem.W.nsIn K mainGlobals "_law_cell_at" = some (some (.ref f20))) (l20 : K.lookup f20 = some ⟨oc20, od20, .func (PySem.W.fnOf "_law_cell_at" "_law_cell_at" (defArgs s__law_cell_at) (defBody s__law_cell_at) (defScope s__law_cell_at) .none kV20 dc20 pm20 an20 cd20 ct20), sl20⟩) (d20 : PySem.W.codeIn K cd20 "_law_cell_at" = true) (k20 : PySem.W.keepIn K (.ref f20) = true)
    (a21 : PySem.W.nsIn K mainGlobals "_law_stream" = some (some (.ref f21))) (l21 : K.lookup f21 = some ⟨oc21, od21, .func (PySem.W.fnOf "_law_stream" "_law_stream" (defArgs s__law_stream) (defBody s__law_stream) (defScope s__law_stream) .none kV21 dc21 pm21 an21 cd21 ct21), sl21⟩) (d21 : PySem.W.codeIn K cd21 "_law_stream" = true) (k21 : PySem.W.keepIn K (.ref f21) = true)
    (a22 : PySem.W.nsIn K mainGlobals "_law_named" = some (some (.ref f22))) (l22 : K.lookup f22 = some ⟨oc22, od22, .func (PySem.W.fnOf "_law_named" "_law_named" (defArgs s__law_named) (defBody s__law_named) (defScope s__law_named) .none kV22 dc22 pm22 an22 cd22 ct22), sl22⟩) (d22 : PySem.W.codeIn K cd22 "_law_named" = true) (k22 : PySem.W.keepIn K (.ref f22) = true)
    (a23 : PySem.W.nsIn K mainGlobals "_law_ladder" = some (some (.ref f23))) (l23 : K.lookup f23 = some ⟨oc23, od23, .func (PySem.W.fnOf "_law_ladder" "_law_ladder" (defArgs s__law_ladder) (defBody s__law_ladder) (defScope s__law_ladder) .none kV23 dc23 pm23 an23 cd23 ct23), sl23⟩) (d23 : PySem.W.codeIn K cd23 "_law_ladder" = true) (k23 : PySem.W.keepIn K (.ref f23) = true)
    (a24 : PySem.W.nsIn K mainGlobals "_law_ladders" = some (some (.ref f24))) (l24 : K.lookup f24 = some ⟨oc24, od24, .func (PySem.W.fnOf "_law_ladders" "_law_ladders" (defArgs s__law_ladders) (defBody s__law_ladders) (defScope s__law_ladders) .none kV24 dc24 pm24 an24 cd24 ct24), sl24⟩) (d24 : PySem.W.codeIn K cd24 "_law_ladders" = true) (k24 : PySem.W.keepIn K (.ref f24) = true)
    (a25 : PySem.W.nsIn K mainGlobals "_law_spoiled_ladder" = some (some (.ref f25))) (l25 : K.lookup f25 = some ⟨oc25, od25, .func (PySem.W.fnOf "_law_spoiled_ladder" "_law_spoiled_ladder" (defArgs s__law_spoiled_ladder) (defBody s__law_spoiled_ladder) (defScope s__law_spoiled_ladder) .none kV25 dc25 pm25 an25 cd25 ct25), sl25⟩) (d25 : PySem.W.codeIn K cd25 "_law_spoiled_ladder" = true) (k25 : PySem.W.keepIn K (.ref f25) = true)
    (a26 : PySem.W.nsIn K mainGlobals "_law_spoiled" = some (some (.ref f26))) (l26 : K.lookup f26 = some ⟨oc26, od26, .func (PySem.W.fnOf "_law_spoiled" "_law_spoiled" (defArgs s__law_spoiled) (defBody s__law_spoiled) (defScope s__law_spoiled) .none kV26 dc26 pm26 an26 cd26 ct26), sl26⟩) (d26 : PySem.W.codeIn K cd26 "_law_spoiled" = true) (k26 : PySem.W.keepIn K (.ref f26) = true)
    (a27 : PySem.W.findIn K (.ref q_Book) "__init__" = some (some (.ref f27))) (l27 : K.lookup f27 = some ⟨oc27, od27, .func (PySem.W.fnOf "__init__" "Book.__init__" (defArgs s_Book___init__) (defBody s_Book___init__) (defScope s_Book___init__) .none kV27 dc27 pm27 an27 cd27 ct27), sl27⟩) (d27 : PySem.W.codeIn K cd27 "Book.__init__" = true) (k27 : PySem.W.keepIn K (.ref f27) = true) (i27 : PySem.W.isFn K (.ref f27) = true)
    (a28 : PySem.W.nsIn K mainGlobals "_law_outcome" = some (some (.ref f28))) (l28 : K.lookup f28 = some ⟨oc28, od28, .func (PySem.W.fnOf "_law_outcome" "_law_outcome" (defArgs s__law_outcome) (defBody s__law_outcome) (defScope s__law_outcome) .none kV28 dc28 pm28 an28 cd28 ct28), sl28⟩) (d28 : PySem.W.codeIn K cd28 "_law_outcome" = true) (k28 : PySem.W.keepIn K (.ref f28) = true)
    (a29 : PySem.W.nsIn K mainGlobals "law" = some (some (.ref f29))) (l29 : K.lookup f29 = some ⟨oc29, od29, .func (PySem.W.fnOf "law" "law" (defArgs s_law) (defBody s_law) (defScope s_law) .none kV29 dc29 pm29 an29 cd29 ct29), sl29⟩) (d29 : PySem.W.codeIn K cd29 "law" = true) (k29 : PySem.W.keepIn K (.ref f29) = true)
    (z_ValueError : PySem.W.nsIn K mainGlobals "ValueError" = some none)
    (z_all : PySem.W.nsIn K mainGlobals "all" = some none)
    (z_bool : PySem.W.nsIn K mainGlobals "bool" = some none)
    (z_int : PySem.W.nsIn K mainGlobals "int" = some none)
    (z_isinstance : PySem.W.nsIn K mainGlobals "isinstance" = some none)
    (z_len : PySem.W.nsIn K mainGlobals "len" = some none)
    (z_list : PySem.W.nsIn K mainGlobals "list" = some none)
    (z_range : PySem.W.nsIn K mainGlobals "range" = some none)
    (z_sorted : PySem.W.nsIn K mainGlobals "sorted" = some none)
    (z_str : PySem.W.nsIn K mainGlobals "str" = some none)
    (z_tuple : PySem.W.nsIn K mainGlobals "tuple" = some none)
    (z_zip : PySem.W.nsIn K mainGlobals "zip" = some none)
    (z_FIGURES : PySem.W.nsIn K mainGlobals "FIGURES" = some (some (.str "0123456789" tk_FIGURES)))
    (z_LETTERS : PySem.W.nsIn K mainGlobals "LETTERS" = some (some (.str "abcdefghijklmnopqrstuvwxyz" tk_LETTERS)))
    (z_MOST_AXES : PySem.W.nsIn K mainGlobals "MOST_AXES" = some (some (.int 4 tk_MOST_AXES)))
    (z_MOST_LINES : PySem.W.nsIn K mainGlobals "MOST_LINES" = some (some (.int 40 tk_MOST_LINES)))
    (z_MOST_PLACES : PySem.W.nsIn K mainGlobals "MOST_PLACES" = some (some (.int 4 tk_MOST_PLACES)))
    (z_MOST_SIGNS : PySem.W.nsIn K mainGlobals "MOST_SIGNS" = some (some (.int 12 tk_MOST_SIGNS)))
    (z_g_NoGrain : PySem.W.nsIn K mainGlobals "NoGrain" = some (some (.ref q_NoGrain)))
    (z_g_NoLadder : PySem.W.nsIn K mainGlobals "NoLadder" = some (some (.ref q_NoLadder)))
    (z_g_CubeError : PySem.W.nsIn K mainGlobals "CubeError" = some (some (.ref q_CubeError)))
    (z_g_NoValue : PySem.W.nsIn K mainGlobals "NoValue" = some (some (.ref q_NoValue)))
    (z_g_NoPick : PySem.W.nsIn K mainGlobals "NoPick" = some (some (.ref q_NoPick)))
    (z_g_NoRow : PySem.W.nsIn K mainGlobals "NoRow" = some (some (.ref q_NoRow)))
    (z_g_NoSuch : PySem.W.nsIn K mainGlobals "NoSuch" = some (some (.ref q_NoSuch)))
    (z_g_NoText : PySem.W.nsIn K mainGlobals "NoText" = some (some (.ref q_NoText)))
    (z_g_TooMuch : PySem.W.nsIn K mainGlobals "TooMuch" = some (some (.ref q_TooMuch)))
    (z_xC_NoGrain : PySem.W.excIn K q_NoGrain [.type "ValueError", .type "Exception", .type "BaseException", .type "object"] "ValueError.__new__" = true)
    (z_kC_NoGrain : PySem.W.keepIn K (.ref q_NoGrain) = true)
    (z_bC_NoGrain : PySem.W.subIn K (.ref q_NoGrain) (.type "BaseException") = some true)
    (z_tC_NoGrain : PySem.W.typeIn K (.ref q_NoGrain) = some (.type "type"))
    (z_hg_NoGrain : (PySem.W.findIn K (.ref q_NoGrain) "__getattribute__") = some (some (.builtin "BaseException.__getattribute__")))
    (z_hk_NoGrain : PySem.W.findIn K (.ref q_NoGrain) "__getattr__" = some none)
    (z_hs_NoGrain : PySem.W.subIn K (.ref q_NoGrain) (.type "BaseException") = some true)
    (z_hd_NoGrain : PySem.W.hasDictIn K q_NoGrain = true)
    (z_ha_NoGrain : PySem.W.findIn K (.ref q_NoGrain) "__class__" = some (some (.builtin "object.__class__")))
    (z_hn_NoGrain : PySem.W.specialIn K (.builtin "object.__class__") "__get__" = some (some (.builtin "getset_descriptor.__get__")))
    (z_ht_NoGrain : PySem.W.takesIn K (.builtin "object.__class__") = some true)
    (z_hm_NoGrain : PySem.W.mroIn K q_NoGrain (.type "object") = some true)
    (z_xC_NoLadder : PySem.W.excIn K q_NoLadder [.type "ValueError", .type "Exception", .type "BaseException", .type "object"] "ValueError.__new__" = true)
    (z_kC_NoLadder : PySem.W.keepIn K (.ref q_NoLadder) = true)
    (z_bC_NoLadder : PySem.W.subIn K (.ref q_NoLadder) (.type "BaseException") = some true)
    (z_tC_NoLadder : PySem.W.typeIn K (.ref q_NoLadder) = some (.type "type"))
    (z_hg_NoLadder : (PySem.W.findIn K (.ref q_NoLadder) "__getattribute__") = some (some (.builtin "BaseException.__getattribute__")))
    (z_hk_NoLadder : PySem.W.findIn K (.ref q_NoLadder) "__getattr__" = some none)
    (z_hs_NoLadder : PySem.W.subIn K (.ref q_NoLadder) (.type "BaseException") = some true)
    (z_hd_NoLadder : PySem.W.hasDictIn K q_NoLadder = true)
    (z_ha_NoLadder : PySem.W.findIn K (.ref q_NoLadder) "__class__" = some (some (.builtin "object.__class__")))
    (z_hn_NoLadder : PySem.W.specialIn K (.builtin "object.__class__") "__get__" = some (some (.builtin "getset_descriptor.__get__")))
    (z_ht_NoLadder : PySem.W.takesIn K (.builtin "object.__class__") = some true)
    (z_hm_NoLadder : PySem.W.mroIn K q_NoLadder (.type "object") = some true)
    (z_x_NoLadder_CubeError : PySem.W.exmOne K (.ref q_NoLadder) (.ref q_CubeError) = some true)
    (z_k_NoLadder_NoLadder : PySem.W.kitOne K (.ref q_NoLadder) (.ref q_NoLadder) = some true)
    (z_k_NoLadder_NoValue : PySem.W.kitOne K (.ref q_NoLadder) (.ref q_NoValue) = some false)
    (z_k_NoLadder_NoGrain : PySem.W.kitOne K (.ref q_NoLadder) (.ref q_NoGrain) = some false)
    (z_k_NoLadder_NoPick : PySem.W.kitOne K (.ref q_NoLadder) (.ref q_NoPick) = some false)
    (z_k_NoLadder_NoRow : PySem.W.kitOne K (.ref q_NoLadder) (.ref q_NoRow) = some false)
    (z_k_NoLadder_NoSuch : PySem.W.kitOne K (.ref q_NoLadder) (.ref q_NoSuch) = some false)
    (z_k_NoLadder_NoText : PySem.W.kitOne K (.ref q_NoLadder) (.ref q_NoText) = some false)
    (z_k_NoLadder_TooMuch : PySem.W.kitOne K (.ref q_NoLadder) (.ref q_TooMuch) = some false)
    (z_k_NoLadder_ValueError : PySem.W.kitOne K (.ref q_NoLadder) (.type "ValueError") = some true)
    (y_g_Book : PySem.W.nsIn K mainGlobals "Book" = some (some (.ref q_Book)))
    (y_pg_Book : PySem.W.plainGet K q_Book Str.empty = true)
    (y_hd_Book : PySem.W.hasDictIn K q_Book = true)
    (y_po_Book : PySem.W.plainOver K q_Book = true)
    (y_sa_Book : PySem.W.findIn K (.ref q_Book) "__setattr__" = some (some (.builtin "object.__setattr__")))
    (y_mk_Book : PySem.W.makesIn K q_Book = true)
    (y_kc_Book : PySem.W.keepIn K (.ref q_Book) = true)
    (y_n_Book_axes : PySem.W.findIn K (.ref q_Book) "axes" = some none)
    (y_n_Book_amounts : PySem.W.findIn K (.ref q_Book) "amounts" = some none)
    (y_n_Book_sums : PySem.W.findIn K (.ref q_Book) "sums" = some none)
    : ∃ fd : FuncData, (∀ (s : Shared) (v : Value), BindsTo s fd ⟨[v], []⟩ [("_law_script", v)]) ∧ ∀ base : Heap, K.In base → base.Ns mainGlobals mg → FnOk l.prog w K mg base (L2N.CX l.prog w) 9 fa fd ["_law_script"] (spM ⟨K, l.prog, w, mg⟩ mg [true] false g_law) := by
  have e := hfa.symm.trans (PySem.W.mg_of X G a29)
  cases e
  have T : Txt K mg q_NoGrain q_NoLadder q_CubeError q_NoValue q_NoPick q_NoRow q_NoSuch q_NoText q_TooMuch q_Book := ⟨PySem.W.mg_none_of X G z_ValueError, PySem.W.mg_none_of X G z_all, PySem.W.mg_none_of X G z_bool, PySem.W.mg_none_of X G z_int, PySem.W.mg_none_of X G z_isinstance, PySem.W.mg_none_of X G z_len, PySem.W.mg_none_of X G z_list, PySem.W.mg_none_of X G z_range, PySem.W.mg_none_of X G z_sorted, PySem.W.mg_none_of X G z_str, PySem.W.mg_none_of X G z_tuple, PySem.W.mg_none_of X G z_zip, ⟨_, PySem.W.mg_of X G z_FIGURES⟩, ⟨_, PySem.W.mg_of X G z_LETTERS⟩, ⟨_, PySem.W.mg_of X G z_MOST_AXES⟩, ⟨_, PySem.W.mg_of X G z_MOST_LINES⟩, ⟨_, PySem.W.mg_of X G z_MOST_PLACES⟩, ⟨_, PySem.W.mg_of X G z_MOST_SIGNS⟩, (PySem.W.mg_of X G z_g_NoGrain), (PySem.W.mg_of X G z_g_NoLadder), (PySem.W.mg_of X G z_g_CubeError), (PySem.W.mg_of X G z_g_NoValue), (PySem.W.mg_of X G z_g_NoPick), (PySem.W.mg_of X G z_g_NoRow), (PySem.W.mg_of X G z_g_NoSuch), (PySem.W.mg_of X G z_g_NoText), (PySem.W.mg_of X G z_g_TooMuch), ⟨PySem.W.mg_of X G z_g_NoGrain, z_xC_NoGrain, z_kC_NoGrain, z_bC_NoGrain, z_tC_NoGrain⟩, ⟨z_hg_NoGrain, z_hk_NoGrain, z_hs_NoGrain, z_hd_NoGrain, z_ha_NoGrain, z_hn_NoGrain, z_ht_NoGrain, z_hm_NoGrain⟩, ⟨PySem.W.mg_of X G z_g_NoLadder, z_xC_NoLadder, z_kC_NoLadder, z_bC_NoLadder, z_tC_NoLadder⟩, ⟨z_hg_NoLadder, z_hk_NoLadder, z_hs_NoLadder, z_hd_NoLadder, z_ha_NoLadder, z_hn_NoLadder, z_ht_NoLadder, z_hm_NoLadder⟩, z_x_NoLadder_CubeError, z_k_NoLadder_NoLadder, z_k_NoLadder_NoValue, z_k_NoLadder_NoGrain, z_k_NoLadder_NoPick, z_k_NoLadder_NoRow, z_k_NoLadder_NoSuch, z_k_NoLadder_NoText, z_k_NoLadder_TooMuch, z_k_NoLadder_ValueError, ⟨⟨y_pg_Book, y_hd_Book, y_po_Book, y_sa_Book⟩, by simp only [List.forall_mem_cons, List.not_mem_nil, false_imp_iff, implies_true, and_true]; exact ⟨y_n_Book_axes, y_n_Book_amounts, y_n_Book_sums⟩, PySem.W.mg_of X G y_g_Book, y_mk_Book, y_kc_Book⟩⟩
  refine ⟨PySem.W.fnOf "law" "law" (defArgs s_law) (defBody s_law) (defScope s_law) .none kV29 dc29 pm29 an29 cd29 ct29, fun s v => .of_eq rfl, fun base _ _ => ?_⟩
  have F1 := fun_mk (st := s_is_whole) l1 d1 k1
  have c_is_whole : DefOk l.prog w K mg base "is_whole" f1 _ ["thing"] [true] false g_is_whole 1 := ⟨ok_is_whole F1 T , PySem.W.mg_of X G a1, k1, F1.binds (ps := ["thing"]) fun _ _ _ _ _ _ us hl => match us, hl with | [_], _ => rfl⟩
  have F2 := fun_mk (st := s_is_word) l2 d2 k2
  have c_is_word : DefOk l.prog w K mg base "is_word" f2 _ ["thing"] [true] false g_is_word 1 := ⟨ok_is_word F2 T , PySem.W.mg_of X G a2, k2, F2.binds (ps := ["thing"]) fun _ _ _ _ _ _ us hl => match us, hl with | [_], _ => rfl⟩
  have F3 := fun_mk (st := s_is_value) l3 d3 k3
  have c_is_value : DefOk l.prog w K mg base "is_value" f3 _ ["thing"] [true] false g_is_value 2 := ⟨ok_is_value F3 T c_is_whole c_is_word, PySem.W.mg_of X G a3, k3, F3.binds (ps := ["thing"]) fun _ _ _ _ _ _ us hl => match us, hl with | [_], _ => rfl⟩
  have F4 := fun_mk (st := s_value_key) l4 d4 k4
  have c_value_key : DefOk l.prog w K mg base "value_key" f4 _ ["thing"] [false] false g_value_key 2 := ⟨ok_value_key F4 T c_is_whole, PySem.W.mg_of X G a4, k4, F4.binds (ps := ["thing"]) fun _ _ _ _ _ _ us hl => match us, hl with | [_], _ => rfl⟩
  have F5 := fun_mk (st := s_place_key) l5 d5 k5
  have c_place_key : DefOk l.prog w K mg base "place_key" f5 _ ["key"] [true] false g_place_key 3 := ⟨ok_place_key F5 T c_value_key, PySem.W.mg_of X G a5, k5, F5.binds (ps := ["key"]) fun _ _ _ _ _ _ us hl => match us, hl with | [_], _ => rfl⟩
  have F6 := fun_mk (st := s_in_order) l6 d6 k6
  have c_in_order : DefOk l.prog w K mg base "in_order" f6 _ ["keys"] [true] true g_in_order 6 := ⟨ok_in_order F6 T c_place_key, PySem.W.mg_of X G a6, k6, F6.binds (ps := ["keys"]) fun _ _ _ _ _ _ us hl => match us, hl with | [_], _ => rfl⟩
  have F7 := fun_mk (st := s_is_line) l7 d7 k7
  have c_is_line : DefOk l.prog w K mg base "is_line" f7 _ ["thing"] [true] false g_is_line 3 := ⟨ok_is_line F7 T c_is_value, PySem.W.mg_of X G a7, k7, F7.binds (ps := ["thing"]) fun _ _ _ _ _ _ us hl => match us, hl with | [_], _ => rfl⟩
  have F8 := fun_mk (st := s_go_together) l8 d8 k8
  have c_go_together : DefOk l.prog w K mg base "go_together" f8 _ ["one", "other"] [true, true] false g_go_together 1 := ⟨ok_go_together F8 T , PySem.W.mg_of X G a8, k8, F8.binds (ps := ["one", "other"]) fun _ _ _ _ _ _ us hl => match us, hl with | [_, _], _ => rfl⟩
  have F9 := fun_mk (st := s_are_lines) l9 d9 k9
  have c_are_lines : DefOk l.prog w K mg base "are_lines" f9 _ ["things"] [true] false g_are_lines 4 := ⟨ok_are_lines F9 T c_is_line c_go_together, PySem.W.mg_of X G a9, k9, F9.binds (ps := ["things"]) fun _ _ _ _ _ _ us hl => match us, hl with | [_], _ => rfl⟩
  have F10 := fun_mk (st := s_is_ladder) l10 d10 k10
  have c_is_ladder : DefOk l.prog w K mg base "is_ladder" f10 _ ["thing"] [true] false g_is_ladder 5 := ⟨ok_is_ladder F10 T c_are_lines, PySem.W.mg_of X G a10, k10, F10.binds (ps := ["thing"]) fun _ _ _ _ _ _ us hl => match us, hl with | [_], _ => rfl⟩
  have F11 := fun_mk (st := s_whole_of) l11 d11 k11
  have c_whole_of : DefOk l.prog w K mg base "whole_of" f11 _ ["ladder"] [true] false g_whole_of 1 := ⟨ok_whole_of F11 T , PySem.W.mg_of X G a11, k11, F11.binds (ps := ["ladder"]) fun _ _ _ _ _ _ us hl => match us, hl with | [_], _ => rfl⟩
  have F12 := fun_mk (st := s_is_level) l12 d12 k12
  have c_is_level : DefOk l.prog w K mg base "is_level" f12 _ ["ladder", "thing"] [true, true] false g_is_level 2 := ⟨ok_is_level F12 T c_is_whole c_whole_of, PySem.W.mg_of X G a12, k12, F12.binds (ps := ["ladder", "thing"]) fun _ _ _ _ _ _ us hl => match us, hl with | [_, _], _ => rfl⟩
  have F13 := fun_mk (st := s_is_grain) l13 d13 k13
  have c_is_grain : DefOk l.prog w K mg base "is_grain" f13 _ ["ladders", "thing"] [true, true] false g_is_grain 3 := ⟨ok_is_grain F13 T c_is_level, PySem.W.mg_of X G a13, k13, F13.binds (ps := ["ladders", "thing"]) fun _ _ _ _ _ _ us hl => match us, hl with | [_, _], _ => rfl⟩
  have F14 := fun_mk (st := s_finest) l14 d14 k14
  have c_finest : DefOk l.prog w K mg base "finest" f14 _ ["ladders"] [true] false g_finest 1 := ⟨ok_finest F14 T , PySem.W.mg_of X G a14, k14, F14.binds (ps := ["ladders"]) fun _ _ _ _ _ _ us hl => match us, hl with | [_], _ => rfl⟩
  have F15 := fun_mk (st := s_Book_ladders) l15 d15 k15
  have c_Book_ladders : MthOk l.prog w K mg base "Book" "ladders" q_Book f15 _ ["self"] [] true g_Book_ladders 1 := ⟨ok_Book_ladders F15 T , T.C_Book.g, T.C_Book.cl, ⟨a15, i15, k15⟩, F15.binds (ps := ["self"]) fun _ _ _ _ _ _ us hl => match us, hl with | [_], _ => rfl⟩
  have F16 := fun_mk (st := s_Book_rows) l16 d16 k16
  have c_Book_rows : MthOk l.prog w K mg base "Book" "rows" q_Book f16 _ ["self"] [] true g_Book_rows 7 := ⟨ok_Book_rows F16 T c_in_order, T.C_Book.g, T.C_Book.cl, ⟨a16, i16, k16⟩, F16.binds (ps := ["self"]) fun _ _ _ _ _ _ us hl => match us, hl with | [_], _ => rfl⟩
  have F17 := fun_mk (st := s_Book_kept) l17 d17 k17
  have c_Book_kept : MthOk l.prog w K mg base "Book" "kept" q_Book f17 _ ["self"] [] true g_Book_kept 1 := ⟨ok_Book_kept F17 T , T.C_Book.g, T.C_Book.cl, ⟨a17, i17, k17⟩, F17.binds (ps := ["self"]) fun _ _ _ _ _ _ us hl => match us, hl with | [_], _ => rfl⟩
  have F18 := fun_mk (st := s_Book_table_known) l18 d18 k18
  have c_Book_table_known : MthOk l.prog w K mg base "Book" "table_known" q_Book f18 _ ["self", "grain"] [true] false g_Book_table_known 4 := ⟨ok_Book_table_known F18 T c_is_grain, T.C_Book.g, T.C_Book.cl, ⟨a18, i18, k18⟩, F18.binds (ps := ["self", "grain"]) fun _ _ _ _ _ _ us hl => match us, hl with | [_, _], _ => rfl⟩
  have F19 := fun_mk (st := s_Book_table) l19 d19 k19
  have c_Book_table : MthOk l.prog w K mg base "Book" "table" q_Book f19 _ ["self", "grain"] [true] true g_Book_table 7 := ⟨ok_Book_table F19 T c_Book_table_known c_in_order, T.C_Book.g, T.C_Book.cl, ⟨a19, i19, k19⟩, F19.binds (ps := ["self", "grain"]) fun _ _ _ _ _ _ us hl => match us, hl with | [_, _], _ => rfl⟩
  have F20 := fun_mk (st := s__law_cell_at) l20 d20 k20
  have c__law_cell_at : DefOk l.prog w K mg base "_law_cell_at" f20 _ ["_law_script", "_law_k"] [true, true] false g__law_cell_at 1 := ⟨ok__law_cell_at F20 T , PySem.W.mg_of X G a20, k20, F20.binds (ps := ["_law_script", "_law_k"]) fun _ _ _ _ _ _ us hl => match us, hl with | [_, _], _ => rfl⟩
  have F21 := fun_mk (st := s__law_stream) l21 d21 k21
  have c__law_stream : DefOk l.prog w K mg base "_law_stream" f21 _ ["_law_cell_here", "_law_many"] [true, true] false g__law_stream 1 := ⟨ok__law_stream F21 T , PySem.W.mg_of X G a21, k21, F21.binds (ps := ["_law_cell_here", "_law_many"]) fun _ _ _ _ _ _ us hl => match us, hl with | [_, _], _ => rfl⟩
  have F22 := fun_mk (st := s__law_named) l22 d22 k22
  have c__law_named : DefOk l.prog w K mg base "_law_named" f22 _ ["_law_cell_here", "_law_way", "_law_k"] [true, true, true] false g__law_named 1 := ⟨ok__law_named F22 T , PySem.W.mg_of X G a22, k22, F22.binds (ps := ["_law_cell_here", "_law_way", "_law_k"]) fun _ _ _ _ _ _ us hl => match us, hl with | [_, _, _], _ => rfl⟩
  have F23 := fun_mk (st := s__law_ladder) l23 d23 k23
  have c__law_ladder : DefOk l.prog w K mg base "_law_ladder" f23 _ ["_law_cell_here"] [true] true g__law_ladder 2 := ⟨ok__law_ladder F23 T c__law_stream c__law_named, PySem.W.mg_of X G a23, k23, F23.binds (ps := ["_law_cell_here"]) fun _ _ _ _ _ _ us hl => match us, hl with | [_], _ => rfl⟩
  have F24 := fun_mk (st := s__law_ladders) l24 d24 k24
  have c__law_ladders : DefOk l.prog w K mg base "_law_ladders" f24 _ ["_law_script"] [true] true g__law_ladders 3 := ⟨ok__law_ladders F24 T c__law_cell_at c__law_ladder, PySem.W.mg_of X G a24, k24, F24.binds (ps := ["_law_script"]) fun _ _ _ _ _ _ us hl => match us, hl with | [_], _ => rfl⟩
  have F25 := fun_mk (st := s__law_spoiled_ladder) l25 d25 k25
  have c__law_spoiled_ladder : DefOk l.prog w K mg base "_law_spoiled_ladder" f25 _ ["_law_ladder_here", "_law_cell_here"] [true, true] false g__law_spoiled_ladder 1 := ⟨ok__law_spoiled_ladder F25 T , PySem.W.mg_of X G a25, k25, F25.binds (ps := ["_law_ladder_here", "_law_cell_here"]) fun _ _ _ _ _ _ us hl => match us, hl with | [_, _], _ => rfl⟩
  have F26 := fun_mk (st := s__law_spoiled) l26 d26 k26
  have c__law_spoiled : DefOk l.prog w K mg base "_law_spoiled" f26 _ ["_law_ladders_here", "_law_cell_here"] [true, true] false g__law_spoiled 2 := ⟨ok__law_spoiled F26 T c__law_spoiled_ladder, PySem.W.mg_of X G a26, k26, F26.binds (ps := ["_law_ladders_here", "_law_cell_here"]) fun _ _ _ _ _ _ us hl => match us, hl with | [_, _], _ => rfl⟩
  have F27 := fun_mk (st := s_Book___init__) l27 d27 k27
  have hm_Book___init__ : HM K q_Book "__init__" "Book.__init__" s_Book___init__ f27 _ ["self", "ladders"] := ⟨F27, ⟨a27, i27, k27⟩, F27.binds (ps := ["self", "ladders"]) fun _ _ _ _ _ _ us hl => match us, hl with | [_, _], _ => rfl⟩
  have F28 := fun_mk (st := s__law_outcome) l28 d28 k28
  have hd__law_outcome : HD K mg "_law_outcome" s__law_outcome f28 _ ["_law_thing"] := ⟨F28, PySem.W.mg_of X G a28, k28, F28.binds (ps := ["_law_thing"]) fun _ _ _ _ _ _ us hl => match us, hl with | [_], _ => rfl⟩
  exact ok_law T c_is_ladder c_finest c_Book_ladders c_Book_rows c_Book_kept c_Book_table c__law_cell_at c__law_ladders c__law_spoiled hm_Book___init__ hd__law_outcome (fun_mk (st := s_law) l29 d29 k29)
end LK
open PySem PySem.W PyProof.Rows
set_option maxRecDepth 100000 in
set_option maxHeartbeats 0 in
theorem PySem.Challenge.cw_cubebook_k56_refused_books_holds : PySem.Challenge.rw_cubebook_k56_refused_books.Holds := by
  w_on; o_law; k_head; (case hw => w_witness2)
  k_fill
  refine MV.law_walk (l := PySem.Challenge.rw_cubebook_k56_refused_books) (k := 9) (x := "_law_script") LK.g_law rfl rfl ⟨rfl, by decide, by decide⟩ (fun w h Y => PySem.W.kIn_of Y) (fun w h KX => rfl) LK.law_true ?F
  case F =>
    intro w mg fa h KX G hmg
    refine' LK.all_mk KX G hmg ?a1 ?l1 ?d1 ?k1 ?a2 ?l2 ?d2 ?k2 ?a3 ?l3 ?d3 ?k3 ?a4 ?l4 ?d4 ?k4 ?a5 ?l5 ?d5 ?k5 ?a6 ?l6 ?d6 ?k6 ?a7 ?l7 ?d7 ?k7 ?a8 ?l8 ?d8 ?k8 ?a9 ?l9 ?d9 ?k9 ?a10 ?l10 ?d10 ?k10 ?a11 ?l11 ?d11 ?k11 ?a12 ?l12 ?d12 ?k12 ?a13 ?l13 ?d13 ?k13 ?a14 ?l14 ?d14 ?k14 ?a15 ?l15 ?d15 ?k15 ?i15 ?a16 ?l16 ?d16 ?k16 ?i16 ?a17 ?l17 ?d17 ?k17 ?i17 ?a18 ?l18 ?d18 ?k18 ?i18 ?a19 ?l19 ?d19 ?k19 ?i19 ?a20 ?l20 ?d20 ?k20 ?a21 ?l21 ?d21 ?k21 ?a22 ?l22 ?d22 ?k22 ?a23 ?l23 ?d23 ?k23 ?a24 ?l24 ?d24 ?k24 ?a25 ?l25 ?d25 ?k25 ?a26 ?l26 ?d26 ?k26 ?a27 ?l27 ?d27 ?k27 ?i27 ?a28 ?l28 ?d28 ?k28 ?a29 ?l29 ?d29 ?k29 ?z_ValueError ?z_all ?z_bool ?z_int ?z_isinstance ?z_len ?z_list ?z_range ?z_sorted ?z_str ?z_tuple ?z_zip ?z_FIGURES ?z_LETTERS ?z_MOST_AXES ?z_MOST_LINES ?z_MOST_PLACES ?z_MOST_SIGNS ?z_g_NoGrain ?z_g_NoLadder ?z_g_CubeError ?z_g_NoValue ?z_g_NoPick ?z_g_NoRow ?z_g_NoSuch ?z_g_NoText ?z_g_TooMuch ?z_xC_NoGrain ?z_kC_NoGrain ?z_bC_NoGrain ?z_tC_NoGrain ?z_hg_NoGrain ?z_hk_NoGrain ?z_hs_NoGrain ?z_hd_NoGrain ?z_ha_NoGrain ?z_hn_NoGrain ?z_ht_NoGrain ?z_hm_NoGrain ?z_xC_NoLadder ?z_kC_NoLadder ?z_bC_NoLadder ?z_tC_NoLadder ?z_hg_NoLadder ?z_hk_NoLadder ?z_hs_NoLadder ?z_hd_NoLadder ?z_ha_NoLadder ?z_hn_NoLadder ?z_ht_NoLadder ?z_hm_NoLadder ?z_x_NoLadder_CubeError ?z_k_NoLadder_NoLadder ?z_k_NoLadder_NoValue ?z_k_NoLadder_NoGrain ?z_k_NoLadder_NoPick ?z_k_NoLadder_NoRow ?z_k_NoLadder_NoSuch ?z_k_NoLadder_NoText ?z_k_NoLadder_TooMuch ?z_k_NoLadder_ValueError ?y_g_Book ?y_pg_Book ?y_hd_Book ?y_po_Book ?y_sa_Book ?y_mk_Book ?y_kc_Book ?y_n_Book_axes ?y_n_Book_amounts ?y_n_Book_sums
    (case y_g_Book => k_is); (case a1 => k_is); (case l1 => k_is); (case d1 => k_is)
    (case k1 => k_is); (case a2 => k_is); (case l2 => k_is); (case d2 => k_is)
    (case k2 => k_is); (case a3 => k_is); (case l3 => k_is); (case d3 => k_is)
    (case k3 => k_is); (case a4 => k_is); (case l4 => k_is); (case d4 => k_is)
    (case k4 => k_is); (case a5 => k_is); (case l5 => k_is); (case d5 => k_is)
    (case k5 => k_is); (case a6 => k_is); (case l6 => k_is); (case d6 => k_is)
    (case k6 => k_is); (case a7 => k_is); (case l7 => k_is); (case d7 => k_is)
    (case k7 => k_is); (case a8 => k_is); (case l8 => k_is); (case d8 => k_is)
    (case k8 => k_is); (case a9 => k_is); (case l9 => k_is); (case d9 => k_is)
    (case k9 => k_is); (case a10 => k_is); (case l10 => k_is); (case d10 => k_is)
    (case k10 => k_is); (case a11 => k_is); (case l11 => k_is); (case d11 => k_is)
    (case k11 => k_is); (case a12 => k_is); (case l12 => k_is); (case d12 => k_is)
    (case k12 => k_is); (case a13 => k_is); (case l13 => k_is); (case d13 => k_is)
    (case k13 => k_is); (case a14 => k_is); (case l14 => k_is); (case d14 => k_is)
    (case k14 => k_is); (case a15 => k_is); (case l15 => k_is); (case d15 => k_is)
    (case k15 => k_is); (case i15 => k_is); (case a16 => k_is); (case l16 => k_is)
    (case d16 => k_is); (case k16 => k_is); (case i16 => k_is); (case a17 => k_is)
    (case l17 => k_is); (case d17 => k_is); (case k17 => k_is); (case i17 => k_is)
    (case a18 => k_is); (case l18 => k_is); (case d18 => k_is); (case k18 => k_is)
    (case i18 => k_is); (case a19 => k_is); (case l19 => k_is); (case d19 => k_is)
    (case k19 => k_is); (case i19 => k_is); (case a20 => k_is); (case l20 => k_is)
    (case d20 => k_is); (case k20 => k_is); (case a21 => k_is); (case l21 => k_is)
    (case d21 => k_is); (case k21 => k_is); (case a22 => k_is); (case l22 => k_is)
    (case d22 => k_is); (case k22 => k_is); (case a23 => k_is); (case l23 => k_is)
    (case d23 => k_is); (case k23 => k_is); (case a24 => k_is); (case l24 => k_is)
    (case d24 => k_is); (case k24 => k_is); (case a25 => k_is); (case l25 => k_is)
    (case d25 => k_is); (case k25 => k_is); (case a26 => k_is); (case l26 => k_is)
    (case d26 => k_is); (case k26 => k_is); (case a27 => k_is); (case l27 => k_is)
    (case d27 => k_is); (case k27 => k_is); (case i27 => k_is); (case a28 => k_is)
    (case l28 => k_is); (case d28 => k_is); (case k28 => k_is); (case a29 => k_is)
    (case l29 => k_is); (case d29 => k_is); (case k29 => k_is); (case z_ValueError => k_is)
    (case z_all => k_is); (case z_bool => k_is); (case z_int => k_is); (case z_isinstance => k_is)
    (case z_len => k_is); (case z_list => k_is); (case z_range => k_is); (case z_sorted => k_is)
    (case z_str => k_is); (case z_tuple => k_is); (case z_zip => k_is); (case z_FIGURES => k_is)
    (case z_LETTERS => k_is); (case z_MOST_AXES => k_is); (case z_MOST_LINES => k_is); (case z_MOST_PLACES => k_is)
    (case z_MOST_SIGNS => k_is); (case z_g_NoGrain => first | k_is | k_exc | rfl); (case z_g_NoLadder => first | k_is | k_exc | rfl); (case z_g_CubeError => first | k_is | k_exc | rfl)
    (case z_g_NoValue => first | k_is | k_exc | rfl); (case z_g_NoPick => first | k_is | k_exc | rfl); (case z_g_NoRow => first | k_is | k_exc | rfl); (case z_g_NoSuch => first | k_is | k_exc | rfl)
    (case z_g_NoText => first | k_is | k_exc | rfl); (case z_g_TooMuch => first | k_is | k_exc | rfl); (case z_xC_NoGrain => first | k_is | k_exc | rfl); (case z_kC_NoGrain => first | k_is | k_exc | rfl)
    (case z_bC_NoGrain => first | k_is | k_exc | rfl); (case z_tC_NoGrain => first | k_is | k_exc | rfl); (case z_hg_NoGrain => first | k_is | k_exc | rfl); (case z_hk_NoGrain => first | k_is | k_exc | rfl)
    (case z_hs_NoGrain => first | k_is | k_exc | rfl); (case z_hd_NoGrain => first | k_is | k_exc | rfl); (case z_ha_NoGrain => first | k_is | k_exc | rfl); (case z_hn_NoGrain => first | k_is | k_exc | rfl)
    (case z_ht_NoGrain => first | k_is | k_exc | rfl); (case z_hm_NoGrain => first | k_is | k_exc | rfl); (case z_xC_NoLadder => first | k_is | k_exc | rfl); (case z_kC_NoLadder => first | k_is | k_exc | rfl)
    (case z_bC_NoLadder => first | k_is | k_exc | rfl); (case z_tC_NoLadder => first | k_is | k_exc | rfl); (case z_hg_NoLadder => first | k_is | k_exc | rfl); (case z_hk_NoLadder => first | k_is | k_exc | rfl)
    (case z_hs_NoLadder => first | k_is | k_exc | rfl); (case z_hd_NoLadder => first | k_is | k_exc | rfl); (case z_ha_NoLadder => first | k_is | k_exc | rfl); (case z_hn_NoLadder => first | k_is | k_exc | rfl)
    (case z_ht_NoLadder => first | k_is | k_exc | rfl); (case z_hm_NoLadder => first | k_is | k_exc | rfl); (case z_x_NoLadder_CubeError => first | k_is | k_exc | rfl); (case z_k_NoLadder_NoLadder => first | k_is | k_exc | rfl)
    (case z_k_NoLadder_NoValue => first | k_is | k_exc | rfl); (case z_k_NoLadder_NoGrain => first | k_is | k_exc | rfl); (case z_k_NoLadder_NoPick => first | k_is | k_exc | rfl); (case z_k_NoLadder_NoRow => first | k_is | k_exc | rfl)
    (case z_k_NoLadder_NoSuch => first | k_is | k_exc | rfl); (case z_k_NoLadder_NoText => first | k_is | k_exc | rfl); (case z_k_NoLadder_TooMuch => first | k_is | k_exc | rfl); (case z_k_NoLadder_ValueError => first | k_is | k_exc | rfl)
    (case y_pg_Book => k_is); (case y_hd_Book => k_is); (case y_po_Book => k_is); (case y_sa_Book => k_is)
    (case y_mk_Book => k_is); (case y_kc_Book => k_is); (case y_n_Book_axes => k_is); (case y_n_Book_amounts => k_is)
    (case y_n_Book_sums => k_is)
