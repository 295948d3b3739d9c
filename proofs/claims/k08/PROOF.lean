import PyProof.Rows.All
import Wide.All
import OpenK.AllK
import Wide.FinOn
import HandS.ForMost
import HandS.ForExc
import HandS.IsInst
import HandS.CallSlots
import HandS.TryMany
import HandS.TupAny
import HandS.Flow
import HandS.Wide
import HandS.StrMore
import HandS.WordsExc
import HandS.CallLocal
import HandS.HeadHook3
import KE.LtData
import PySem.Challenge.RW_peristyle_k08_like
set_option Elab.async false
set_option linter.all false
set_option maxRecDepth 100000
set_option autoImplicit false
set_option maxHeartbeats 4000000
/-! DL1: a layer of plain data over the hand layer: what a value stands for (Den), the slots of a frame as data (SR), readings by plain functions. -/
namespace DL
open PySem PySem.Spec PyProof.Rows L2

/-! ### what a value stands for -/
def kD : Key → PyData
  | .inl i => .int i
  | .inr x => .str x
mutual
inductive Den (K : PySem.W.Frag) (F : Hp) : V → PyData → Prop where
  | non : Den K F .non .none
  | bl (b : Bool) : Den K F (.bl b) (.bool b)
  | int (i : Int) : Den K F (.int i) (.int i)
  | str (x : Str) : Den K F (.str x) (.str x)
  | lst {a : Addr} {xs : List V} {ds : List PyData} : SqL K F a xs → Dens K F xs ds → Den K F (.ref a) (.list ds)
  | tup {a : Addr} {xs : List V} {ds : List PyData} : SqT K F a xs → Dens K F xs ds → Den K F (.ref a) (.tuple ds)
  | dic {a : Addr} {kvs : List (Key × V)} {ps : List (PyData × PyData)} : F a = some (.dK kvs) → DenKV K F kvs ps → Den K F (.ref a) (.dict ps)
inductive Dens (K : PySem.W.Frag) (F : Hp) : List V → List PyData → Prop where
  | nil : Dens K F [] []
  | cons {v : V} {vs : List V} {d : PyData} {ds : List PyData} : Den K F v d → Dens K F vs ds → Dens K F (v :: vs) (d :: ds)
inductive DenKV (K : PySem.W.Frag) (F : Hp) : List (Key × V) → List (PyData × PyData) → Prop where
  | nil : DenKV K F [] []
  | cons {k : Key} {v : V} {kvs : List (Key × V)} {d : PyData} {ps : List (PyData × PyData)} : Den K F v d → DenKV K F kvs ps → DenKV K F ((k, v) :: kvs) ((kD k, d) :: ps)
end

def Ex (H H' : Hp) : Prop := ∀ a o, H a = some o → H' a = some o
theorem Ex.refl (H : Hp) : Ex H H := fun _ _ h => h
theorem Ex.trans {H H1 H2 : Hp} (a : Ex H H1) (b : Ex H1 H2) : Ex H H2 := fun x o h => b x o (a x o h)
theorem Ex.new {H : Hp} {p : Addr} {o : HO} (h : H p = none) : Ex H (upd H p o) := fun a u e => by
  rw [upd_ne (ne_of_none e h)]
  exact e
theorem Ex.rd {H H' : Hp} {a : Addr} {u : HO} (e : Ex H H') (h : Rd H a u) : Rd H' a u := by
  rcases h with h | ⟨o, h⟩
  · exact .inl (e a _ h)
  · exact .inr ⟨o, e a _ h⟩
theorem Ex.sl {K : PySem.W.Frag} {H H' : Hp} {a : Addr} {xs : List V} (e : Ex H H') (h : SqL K H a xs) : SqL K H' a xs := by
  rcases h with h | h
  · exact .inl (e.rd h)
  · exact .inr h
theorem Ex.st {K : PySem.W.Frag} {H H' : Hp} {a : Addr} {xs : List V} (e : Ex H H') (h : SqT K H a xs) : SqT K H' a xs := by
  rcases h with h | h
  · exact .inl (e.rd h)
  · exact .inr h

section
variable {K : PySem.W.Frag} {F F' : Hp}
mutual
theorem Den.mono (e : Ex F F') : ∀ {v : V} {d : PyData}, Den K F v d → Den K F' v d
  | _, _, .non => .non
  | _, _, .bl b => .bl b
  | _, _, .int i => .int i
  | _, _, .str x => .str x
  | _, _, .lst h q => .lst (e.sl h) (Dens.mono e q)
  | _, _, .tup h q => .tup (e.st h) (Dens.mono e q)
  | _, _, .dic h q => .dic (e _ _ h) (DenKV.mono e q)
theorem Dens.mono (e : Ex F F') : ∀ {vs : List V} {ds : List PyData}, Dens K F vs ds → Dens K F' vs ds
  | _, _, .nil => .nil
  | _, _, .cons h q => .cons (Den.mono e h) (Dens.mono e q)
theorem DenKV.mono (e : Ex F F') : ∀ {vs : List (Key × V)} {ds : List (PyData × PyData)}, DenKV K F vs ds → DenKV K F' vs ds
  | _, _, .nil => .nil
  | _, _, .cons h q => .cons (Den.mono e h) (DenKV.mono e q)
end
theorem Dens.length : ∀ {vs : List V} {ds : List PyData}, Dens K F vs ds → vs.length = ds.length
  | _, _, .nil => rfl
  | _, _, .cons _ q => congrArg (· + 1) (Dens.length q)
theorem Dens.append : ∀ {vs : List V} {ds : List PyData} {ws : List V} {es : List PyData}, Dens K F vs ds → Dens K F ws es → Dens K F (vs ++ ws) (ds ++ es)
  | _, _, _, _, .nil, h => h
  | _, _, _, _, .cons d q, h => .cons d (Dens.append q h)
theorem Dens.get : ∀ {vs : List V} {ds : List PyData} {i : Nat} {d : PyData}, Dens K F vs ds → ds[i]? = some d → ∃ v, vs[i]? = some v ∧ Den K F v d
  | _, _, _, _, .nil, e => by simp at e
  | _, _, 0, _, .cons h _, e => by simp at e; subst e; exact ⟨_, rfl, h⟩
  | _, _, i + 1, _, .cons _ q, e => by
    obtain ⟨v, h1, h2⟩ := Dens.get (i := i) q (by simpa using e)
    exact ⟨v, by simpa using h1, h2⟩
theorem Dens.getV : ∀ {vs : List V} {ds : List PyData} {i : Nat} {v : V}, Dens K F vs ds → vs[i]? = some v → ∃ d, ds[i]? = some d ∧ Den K F v d
  | _, _, _, _, .nil, e => by simp at e
  | _, _, 0, _, .cons h _, e => by simp at e; subst e; exact ⟨_, rfl, h⟩
  | _, _, i + 1, _, .cons _ q, e => by
    obtain ⟨v, h1, h2⟩ := Dens.getV (i := i) q (by simpa using e)
    exact ⟨v, by simpa using h1, h2⟩
theorem Dens.take : ∀ {vs : List V} {ds : List PyData} (n : Nat), Dens K F vs ds → Dens K F (vs.take n) (ds.take n)
  | _, _, 0, _ => .nil
  | _, _, _ + 1, .nil => .nil
  | _, _, n + 1, .cons r t => .cons r (Dens.take n t)
theorem Dens.drop : ∀ {vs : List V} {ds : List PyData} (n : Nat), Dens K F vs ds → Dens K F (vs.drop n) (ds.drop n)
  | _, _, 0, r => r
  | _, _, _ + 1, .nil => .nil
  | _, _, n + 1, .cons _ t => Dens.drop n t
theorem Dens.nil_iff {vs : List V} {ds : List PyData} (r : Dens K F vs ds) : vs = [] ↔ ds = [] := by
  cases r with
  | nil => simp
  | cons _ _ => simp
theorem Dens.ints : ∀ {vs : List V} {ns : List Int}, Dens K F vs (ns.map PyData.int) → vs = ns.map V.int
  | _, [], h => by cases h; rfl
  | _, n :: ns, h => by
    rw [List.map_cons] at h
    cases h with
    | cons a b => cases a; rw [Dens.ints b]; rfl
theorem Dens.of_ints : ∀ (ns : List Int), Dens K F (ns.map V.int) (ns.map PyData.int)
  | [] => .nil
  | n :: ns => .cons (.int n) (Dens.of_ints ns)
theorem Dens.strs : ∀ {vs : List V} {ns : List Str}, Dens K F vs (ns.map PyData.str) → vs = ns.map V.str
  | _, [], h => by cases h; rfl
  | _, n :: ns, h => by
    rw [List.map_cons] at h
    cases h with
    | cons a b => cases a; rw [Dens.strs b]; rfl
theorem Dens.of_strs : ∀ (ns : List Str), Dens K F (ns.map V.str) (ns.map PyData.str)
  | [] => .nil
  | n :: ns => .cons (.str n) (Dens.of_strs ns)
theorem Dens.bools : ∀ {vs : List V} {ns : List Bool}, Dens K F vs (ns.map PyData.bool) → vs = ns.map V.bl
  | _, [], h => by cases h; rfl
  | _, n :: ns, h => by
    rw [List.map_cons] at h
    cases h with
    | cons a b => cases a; rw [Dens.bools b]; rfl

/-! flat data: no heap -/
def flatD : PyData → Bool
  | .none | .bool _ | .int _ | .str _ => true
  | _ => false
def flatOf : PyData → V
  | .bool b => .bl b
  | .int i => .int i
  | .str x => .str x
  | _ => .non
theorem Den.flat {v : V} {d : PyData} (h : Den K F v d) (f : flatD d = true) : v = flatOf d := by
  cases h <;> first | rfl | cases f
theorem Den.of_flat {d : PyData} (f : flatD d = true) : Den K F (flatOf d) d := by
  cases d <;> first | exact .non | exact .bl _ | exact .int _ | exact .str _ | cases f
theorem Den.toFlat {v : V} {d : PyData} (h : Den K F v d) (f : flatD d = true) (F2 : Hp) : Den K F2 v d := by
  rw [h.flat f]; exact .of_flat f
theorem Den.flatV {v : V} {d : PyData} (h : Den K F v d) (f : flatD d = true) : L2.flatV v = true := by
  cases h <;> first | rfl | cases f
theorem Dens.flatV : ∀ {vs : List V} {ds : List PyData}, Dens K F vs ds → ds.all flatD = true → vs.all L2.flatV = true
  | _, _, .nil, _ => rfl
  | _, _, .cons h q, f => by
    rw [List.all_cons, Bool.and_eq_true] at f
    rw [List.all_cons, h.flatV f.1, Dens.flatV q f.2]; rfl

/-! to the hand layer's own data (no dicts) -/
mutual
def noDic : PyData → Bool
  | .none => true
  | .bool _ => true
  | .int _ => true
  | .str _ => true
  | .list xs => noDics xs
  | .tuple xs => noDics xs
  | .dict _ => false
def noDics : List PyData → Bool
  | [] => true
  | x :: xs => noDic x && noDics xs
end
mutual
theorem Den.dp : ∀ {v : V} {d : PyData}, Den K F v d → noDic d = true → Dp K F v d
  | _, _, .non, _ => .non
  | _, _, .bl b, _ => .bl b
  | _, _, .int i, _ => .int i
  | _, _, .str x, _ => .str x
  | _, _, .lst h q, f => .lst h (Dens.dp q (by simpa [noDic] using f))
  | _, _, .tup h q, f => .tup h (Dens.dp q (by simpa [noDic] using f))
  | _, _, .dic h q, f => by simp [noDic] at f
theorem Dens.dp : ∀ {vs : List V} {ds : List PyData}, Dens K F vs ds → noDics ds = true → DpAll K F vs ds
  | _, _, .nil, _ => .nil
  | _, _, .cons h q, f => by
    rw [noDics, Bool.and_eq_true] at f
    exact .cons (Den.dp h f.1) (Dens.dp q f.2)
end

/-! types, for isinstance -/
def tyOf : PyData → String
  | .none => "NoneType"
  | .bool _ => "bool"
  | .int _ => "int"
  | .str _ => "str"
  | .list _ => "list"
  | .tuple _ => "tuple"
  | .dict _ => "dict"
theorem Den.tyx {H : Hp} (e : Ex F H) {v : V} {d : PyData} (h : Den K F v d) : TyX K H v (.type (tyOf d)) := by
  cases h with
  | non => exact .base .non
  | bl b => exact .base (.bl b)
  | int i => exact .base (.int i)
  | str x => exact .base (.str x)
  | lst h _ =>
    rcases h with (h | ⟨o, h⟩) | ⟨o, its, n, hk, hc, _⟩
    · exact .base (.lst (e _ _ h))
    · exact .base (.frz (e _ _ h))
    · exact .kList hk hc
  | tup h _ =>
    rcases h with (h | ⟨o, h⟩) | ⟨o, its, n, hk, hc, _⟩
    · exact .base (.tup (e _ _ h))
    · exact .fTuple (e _ _ h)
    · exact .kTuple hk hc
  | dic h _ => exact .base (.dK (e _ _ h))
end

/-! ### outcomes -/
/-- so that simp writes its steps down -/
theorem nd {α : Sort _} {a b : α} (h : a = b) : a = b := h
structure Xn where
  nm : Str
  fs : List (Str × V)
inductive Res (α : Type) where
  | ok (a : α)
  | exc (x : Xn)
  | bad
def Res.bind {α β : Type} : Res α → (α → Res β) → Res β
  | .ok a, f => f a
  | .exc x, _ => .exc x
  | .bad, _ => .bad
instance : Monad Res where
  pure := .ok
  bind := Res.bind
@[simp] theorem bind_ok {α β : Type} (a : α) (f : α → Res β) : (Res.ok a >>= f) = f a := nd rfl
@[simp] theorem bind_exc {α β : Type} (x : Xn) (f : α → Res β) : (Res.exc x >>= f) = .exc x := nd rfl
@[simp] theorem bind_bad {α β : Type} (f : α → Res β) : (Res.bad >>= f) = .bad := nd rfl
@[simp] theorem pure_ok {α : Type} (a : α) : (pure a : Res α) = .ok a := nd rfl
theorem bind_assoc {α β γ : Type} (x : Res α) (f : α → Res β) (g : β → Res γ) : (x >>= f) >>= g = x >>= fun a => f a >>= g := by cases x <;> rfl
def noX {α : Type} : Res α → Res α
  | .ok a => .ok a
  | _ => .bad
@[simp] theorem noX_ok {α : Type} (a : α) : noX (Res.ok a) = .ok a := nd rfl

/-! ### slots -/
inductive Sl where
  | un
  | val (d : PyData)
  | own (ds : List PyData)
abbrev Sls := List Sl
def SlOk (K : PySem.W.Frag) (H F : Hp) (o : Option (Option V)) : Sl → Prop
  | .un => True
  | .val d => ∃ v, o = some (some v) ∧ Den K F v d
  | .own ds => ∃ a xs, o = some (some (.ref a)) ∧ H a = some (.lst xs) ∧ F a = none ∧ Dens K F xs ds
def OwnAt (ρ : Sls) (σ : L2.St) (i : Nat) (a : Addr) : Prop := (∃ ds, ρ[i]? = some (.own ds)) ∧ σ[i]? = some (some (.ref a))

structure Gr (F H F' H' : Hp) : Prop where
  ff : Ex F F'
  hh : Ex H H'
  fh : Ex F' H'
  nf : ∀ a, F a = none → H a ≠ none → F' a = none
theorem Gr.refl {F H : Hp} (e : Ex F H) : Gr F H F H := ⟨.refl _, .refl _, e, fun _ h _ => h⟩
theorem Gr.trans {F H F1 H1 F2 H2 : Hp} (a : Gr F H F1 H1) (b : Gr F1 H1 F2 H2) : Gr F H F2 H2 :=
  ⟨a.ff.trans b.ff, a.hh.trans b.hh, b.fh, fun x h n => b.nf x (a.nf x h n) fun z => n (by
    cases q : H x with
    | none => rfl
    | some o => rw [a.hh x o q] at z; cases z)⟩
theorem not_of_none {H H' : Hp} (e : Ex H H') {a : Addr} (h : H' a = none) : H a = none := by
  cases q : H a with
  | none => rfl
  | some o => rw [e a o q] at h; cases h
/-- a new object, frozen at once -/
theorem Gr.new {F H : Hp} {p : Addr} {o : HO} (e : Ex F H) (h : H p = none) : Gr F H (upd F p o) (upd H p o) := by
  have hF : F p = none := not_of_none e h
  refine ⟨Ex.new hF, Ex.new h, fun a u q => ?_, fun a h1 h2 => ?_⟩
  · by_cases ha : a = p
    · subst ha; rw [upd_same] at q ⊢; exact q
    · rw [upd_ne ha] at q ⊢; exact e a u q
  · have ha : a ≠ p := fun z => h2 (z ▸ h)
    rw [upd_ne ha]; exact h1
/-- a new object, kept apart -/
theorem Gr.newO {F H : Hp} {p : Addr} {o : HO} (e : Ex F H) (h : H p = none) : Gr F H F (upd H p o) := by
  refine ⟨.refl _, Ex.new h, fun a u q => ?_, fun a h1 h2 => h1⟩
  have ha : a ≠ p := fun z => by subst z; rw [not_of_none e h] at q; cases q
  rw [upd_ne ha]; exact e a u q

structure SR (K : PySem.W.Frag) (F0 H0 : Hp) (ρ : Sls) (σ : L2.St) (H F : Hp) : Prop where
  gr : Gr F0 H0 F H
  len : ρ.length = σ.length
  sl : ∀ (i : Nat) (s : Sl), ρ[i]? = some s → SlOk K H F σ[i]? s
  own0 : ∀ (i : Nat) (a : Addr), OwnAt ρ σ i a → H0 a = none
  sep : ∀ (i j : Nat) (a : Addr), OwnAt ρ σ i a → OwnAt ρ σ j a → i = j
theorem SlOk.grow {K : PySem.W.Frag} {H F H' F' : Hp} {o : Option (Option V)} {s : Sl} (h : SlOk K H F o s) (g : Gr F H F' H') : SlOk K H' F' o s := by
  cases s with
  | un => exact True.intro
  | val d => obtain ⟨v, e, q⟩ := h; exact ⟨v, e, q.mono g.ff⟩
  | own ds => obtain ⟨a, xs, e, h1, h2, q⟩ := h; exact ⟨a, xs, e, g.hh _ _ h1, g.nf a h2 (by rw [h1]; simp), q.mono g.ff⟩
section
variable {K : PySem.W.Frag} {F0 H0 : Hp} {ρ : Sls} {σ : L2.St} {H F H' F' : Hp}
theorem SR.grow (r : SR K F0 H0 ρ σ H F) (g : Gr F H F' H') : SR K F0 H0 ρ σ H' F' :=
  ⟨r.gr.trans g, r.len, fun i s e => (r.sl i s e).grow g, r.own0, r.sep⟩
theorem SR.ex (r : SR K F0 H0 ρ σ H F) : Ex F H := r.gr.fh
/-- a slot takes a datum -/
theorem SR.set (r : SR K F0 H0 ρ σ H F) {v : V} {d : PyData} (h : Den K F v d) (i : Nat) : SR K F0 H0 (ρ.set i (.val d)) (σ.set i (some v)) H F := by
  have ow : ∀ j a, OwnAt (ρ.set i (.val d)) (σ.set i (some v)) j a → j ≠ i ∧ OwnAt ρ σ j a := fun j a ⟨⟨ds, e1⟩, e2⟩ => by
    by_cases hj : j = i
    · subst hj
      by_cases hl : j < ρ.length
      · rw [List.getElem?_set_self hl] at e1; cases e1
      · rw [List.getElem?_eq_none (by simpa using hl)] at e1; cases e1
    · rw [List.getElem?_set_ne (Ne.symm hj)] at e1 e2
      exact ⟨hj, ⟨ds, e1⟩, e2⟩
  refine ⟨r.gr, by simp [r.len], fun j s e => ?_, fun j a o => r.own0 j a (ow j a o).2, fun j k a o1 o2 => r.sep j k a (ow j a o1).2 (ow k a o2).2⟩
  by_cases hj : j = i
  · subst hj
    by_cases hl : j < ρ.length
    · rw [List.getElem?_set_self hl] at e; cases e
      rw [List.getElem?_set_self (by rw [← r.len]; exact hl)]
      exact ⟨v, rfl, h⟩
    · rw [List.getElem?_eq_none (by simpa using hl)] at e; cases e
  · rw [List.getElem?_set_ne (Ne.symm hj)] at e ⊢
    exact r.sl j s e
/-- a slot takes a new list -/
theorem SR.setO (r : SR K F0 H0 ρ σ H F) {a : Addr} {xs : List V} {ds : List PyData} (h1 : H a = some (.lst xs)) (h2 : F a = none) (h3 : H0 a = none) (h4 : ∀ j, ¬ OwnAt ρ σ j a) (h : Dens K F xs ds) (i : Nat) : SR K F0 H0 (ρ.set i (.own ds)) (σ.set i (some (.ref a))) H F := by
  have ow : ∀ j b, OwnAt (ρ.set i (.own ds)) (σ.set i (some (.ref a))) j b → (j = i ∧ b = a) ∨ OwnAt ρ σ j b := fun j b ⟨⟨ds', e1⟩, e2⟩ => by
    by_cases hj : j = i
    · subst hj
      by_cases hl : j < ρ.length
      · rw [List.getElem?_set_self (by rw [← r.len]; exact hl)] at e2
        have e3 : V.ref a = V.ref b := Option.some.inj (Option.some.inj e2)
        cases e3
        exact .inl ⟨rfl, rfl⟩
      · rw [List.getElem?_eq_none (by simpa using hl)] at e1; cases e1
    · rw [List.getElem?_set_ne (Ne.symm hj)] at e1 e2
      exact .inr ⟨⟨ds', e1⟩, e2⟩
  refine ⟨r.gr, by simp [r.len], fun j s e => ?_, fun j b o => ?_, fun j k b o1 o2 => ?_⟩
  · by_cases hj : j = i
    · subst hj
      by_cases hl : j < ρ.length
      · rw [List.getElem?_set_self hl] at e; cases e
        rw [List.getElem?_set_self (by rw [← r.len]; exact hl)]
        exact ⟨a, xs, rfl, h1, h2, h⟩
      · rw [List.getElem?_eq_none (by simpa using hl)] at e; cases e
    · rw [List.getElem?_set_ne (Ne.symm hj)] at e ⊢
      exact r.sl j s e
  · rcases ow j b o with ⟨_, rfl⟩ | o
    · exact h3
    · exact r.own0 j b o
  · rcases ow j b o1 with ⟨rfl, rfl⟩ | p1
    · rcases ow k b o2 with ⟨rfl, _⟩ | p2
      · rfl
      · exact absurd p2 (h4 k)
    · rcases ow k b o2 with ⟨rfl, rfl⟩ | p2
      · exact absurd p1 (h4 j)
      · exact r.sep j k b p1 p2
theorem SR.ownNe (r : SR K F0 H0 ρ σ H F) {j : Nat} {a : Addr} (o : OwnAt ρ σ j a) : H a ≠ none := by
  obtain ⟨⟨ds, e1⟩, e2⟩ := o
  obtain ⟨b, xs, e3, h1, _⟩ := r.sl j _ e1
  rw [e2] at e3
  have e4 : V.ref a = V.ref b := Option.some.inj (Option.some.inj e3)
  cases e4
  rw [h1]; simp
/-- an own list becomes data -/
theorem SR.freeze (r : SR K F0 H0 ρ σ H F) {i : Nat} {ds : List PyData} (e : ρ[i]? = some (.own ds)) :
    ∃ a xs F', σ[i]? = some (some (.ref a)) ∧ H a = some (.lst xs) ∧ F a = none ∧ F' = upd F a (.lst xs) ∧ Den K F' (.ref a) (.list ds) ∧ Ex F F' ∧ SR K F0 H0 (ρ.set i (.val (.list ds))) σ H F' := by
  obtain ⟨a, xs, e2, h1, h2, h3⟩ := r.sl i _ e
  have hx : Ex F (upd F a (.lst xs)) := Ex.new h2
  have den : Den K (upd F a (.lst xs)) (.ref a) (.list ds) := .lst (.inl (.inl upd_same)) (h3.mono hx)
  have oa : OwnAt ρ σ i a := ⟨⟨ds, e⟩, e2⟩
  have hl : i < ρ.length := (List.getElem?_eq_some_iff.mp e).1
  have ow : ∀ j b, OwnAt (ρ.set i (.val (.list ds))) σ j b → j ≠ i ∧ OwnAt ρ σ j b := fun j b ⟨⟨ds', e1⟩, e2⟩ => by
    by_cases hj : j = i
    · subst hj
      rw [List.getElem?_set_self hl] at e1; cases e1
    · rw [List.getElem?_set_ne (Ne.symm hj)] at e1
      exact ⟨hj, ⟨ds', e1⟩, e2⟩
  refine ⟨a, xs, _, e2, h1, h2, rfl, den, hx, ⟨r.gr.ff.trans hx, r.gr.hh, fun b u q => ?_, fun b q1 q2 => ?_⟩, by simp [r.len], fun j s e' => ?_, fun j b o => r.own0 j b (ow j b o).2, fun j k b o1 o2 => r.sep j k b (ow j b o1).2 (ow k b o2).2⟩
  · by_cases hb : b = a
    · subst hb; rw [upd_same] at q; rw [h1]; exact q
    · rw [upd_ne hb] at q; exact r.gr.fh b u q
  · have hb : b ≠ a := fun z => q2 (z ▸ r.own0 i a oa)
    rw [upd_ne hb]; exact r.gr.nf b q1 q2
  · by_cases hj : j = i
    · subst hj
      rw [List.getElem?_set_self hl] at e'; cases e'
      exact ⟨_, e2, den⟩
    · rw [List.getElem?_set_ne (Ne.symm hj)] at e'
      have q := r.sl j s e'
      cases s with
      | un => exact True.intro
      | val d => obtain ⟨v, e3, q⟩ := q; exact ⟨v, e3, q.mono hx⟩
      | own ds2 =>
        obtain ⟨b, ys, e3, k1, k2, k3⟩ := q
        have hb : b ≠ a := fun z => hj (r.sep j i a ⟨⟨ds2, e'⟩, z ▸ e3⟩ oa)
        exact ⟨b, ys, e3, k1, by rw [upd_ne hb]; exact k2, k3.mono hx⟩
/-- an own list is changed -/
theorem SR.change (r : SR K F0 H0 ρ σ H F) {i : Nat} {ds : List PyData} (e : ρ[i]? = some (.own ds)) {a : Addr} (e2 : σ[i]? = some (some (.ref a))) {xs : List V} {ds' : List PyData} (h : Dens K F xs ds') :
    SR K F0 H0 (ρ.set i (.own ds')) σ (upd H a (.lst xs)) F := by
  have oa : OwnAt ρ σ i a := ⟨⟨ds, e⟩, e2⟩
  obtain ⟨a', ys, e3, k1, k2, k3⟩ := r.sl i _ e
  rw [e2] at e3
  have e4 : V.ref a = V.ref a' := Option.some.inj (Option.some.inj e3)
  cases e4
  have hl : i < ρ.length := (List.getElem?_eq_some_iff.mp e).1
  have ow : ∀ j b, OwnAt (ρ.set i (.own ds')) σ j b → OwnAt ρ σ j b := fun j b ⟨⟨ds2, q1⟩, q2⟩ => by
    by_cases hj : j = i
    · subst hj; exact ⟨⟨ds, e⟩, q2⟩
    · rw [List.getElem?_set_ne (Ne.symm hj)] at q1; exact ⟨⟨ds2, q1⟩, q2⟩
  refine ⟨⟨r.gr.ff, fun b u q => ?_, fun b u q => ?_, r.gr.nf⟩, by simp [r.len], fun j s e' => ?_, fun j b o => r.own0 j b (ow j b o), fun j k b o1 o2 => r.sep j k b (ow j b o1) (ow k b o2)⟩
  · have hb : b ≠ a := fun z => by rw [z, r.own0 i a oa] at q; cases q
    rw [upd_ne hb]; exact r.gr.hh b u q
  · have hb : b ≠ a := fun z => by rw [z, k2] at q; cases q
    rw [upd_ne hb]; exact r.gr.fh b u q
  · by_cases hj : j = i
    · subst hj
      rw [List.getElem?_set_self hl] at e'; cases e'
      exact ⟨a, xs, e2, upd_same, k2, h⟩
    · rw [List.getElem?_set_ne (Ne.symm hj)] at e'
      have q := r.sl j s e'
      cases s with
      | un => exact True.intro
      | val d => exact q
      | own ds2 =>
        obtain ⟨b, zs, q3, q4, q5, q6⟩ := q
        have hb : b ≠ a := fun z => hj (r.sep j i a ⟨⟨ds2, e'⟩, z ▸ q3⟩ oa)
        exact ⟨b, zs, q3, by rw [upd_ne hb]; exact q4, q5, q6⟩
end
end DL

/-! DL2: readings by plain functions of the slots; the rules of expressions, tests, arguments. -/
namespace DL
open PySem PySem.Spec PyProof.Rows L2

/-- how an exception lies: its class by its name in the module, its own dict -/
def ExR (mg : Str → Option Value) (x : Xn) (cls : Value) (dd : Option Addr) (H : Hp) : Prop :=
  mg x.nm = some cls ∧ ((x.fs = [] ∧ dd = none) ∨ (x.fs ≠ [] ∧ ∃ d, dd = some d ∧ H d = some (.xd x.fs)))

section
variable (mg : Str → Option Value) (K : PySem.W.Frag) (F0 H0 : Hp) (W : WX)
/-- what is left to be done with an outcome: R says what stands for what -/
def Rest {α β : Type} (R : Hp → β → α → Prop) (r : Res α) (σ : L2.St) (H F : Hp) (Q : β → Hp → Prop) : Prop :=
  match r with
  | .ok a => ∀ v H' F', Gr F H F' H' → R F' v a → Q v H'
  | .exc x => ∀ cls dd H' F', Gr F H F' H' → ExR mg x cls dd H' → W cls dd σ H'
  | .bad => False
def rd {α β : Type} (R : Hp → β → α → Prop) (f : Sls → Res α) : L2.St → Hp → (β → Hp → Prop) → Prop := fun σ H Q =>
  ∃ ρ F, SR K F0 H0 ρ σ H F ∧ Rest mg W R (f ρ) σ H F Q
end
abbrev REq {α : Type} : Hp → α → α → Prop := fun _ v a => v = a

section
variable {mg : Str → Option Value} {K : PySem.W.Frag} {F0 H0 : Hp} {W : WX} {α β γ δ : Type} {R : Hp → β → α → Prop} {R2 : Hp → δ → γ → Prop} {σ : L2.St} {H F H1 F1 : Hp} {ρ : Sls}
theorem Rest.grow {r : Res α} {Q : β → Hp → Prop} (g : Gr F H F1 H1) (h : Rest mg W R r σ H F Q) : Rest mg W R r σ H1 F1 Q := by
  cases r with
  | ok a => exact fun v H' F' g' r' => h v H' F' (g.trans g') r'
  | exc x => exact fun cls dd H' F' g' r' => h cls dd H' F' (g.trans g') r'
  | bad => exact h
theorem rd_step {f : Sls → Res α} {h : α → Res γ} {Q : δ → Hp → Prop} (sr : SR K F0 H0 ρ σ H F) (q : Rest mg W R2 (f ρ >>= h) σ H F Q) :
    rd mg K F0 H0 W R f σ H (fun v H1 => ∃ a F1, Gr F H F1 H1 ∧ R F1 v a ∧ SR K F0 H0 ρ σ H1 F1 ∧ Rest mg W R2 (h a) σ H1 F1 Q) := by
  refine ⟨ρ, F, sr, ?_⟩
  cases e : f ρ with
  | ok a => rw [e] at q; exact fun v H1 F1 g r => ⟨a, F1, g, r, sr.grow g, q.grow g⟩
  | exc x => rw [e] at q; exact q
  | bad => rw [e] at q; exact q
theorem Rest.imp {δ' : Type} {R' : Hp → δ' → α → Prop} {r : Res α} {Q : β → Hp → Prop} {Q' : δ' → Hp → Prop} (h : Rest mg W R r σ H F Q) (k : ∀ v H' F' a, Gr F H F' H' → R' F' v a → (∀ u H2 F2, Gr F' H' F2 H2 → R F2 u a → Q u H2) → Q' v H') : Rest mg W R' r σ H F Q' := by
  cases r with
  | ok a => exact fun v H' F' g r => k v H' F' a g r fun u H2 F2 g2 r2 => h u H2 F2 (g.trans g2) r2
  | exc x => exact h
  | bad => exact h
end

/-! ### the judgements -/
section
variable (X : Cx) (F0 H0 : Hp) (W : WX)
def DE (e : Expr) (f : Sls → Res PyData) : Prop := PE X e (rd X.mg X.K F0 H0 W (Den X.K) f)
def DT (e : Expr) (f : Sls → Res Bool) : Prop := PT X e (rd X.mg X.K F0 H0 W REq f)
def DW (e : Expr) (f : Sls → Res Bool) : Prop := PW X e (rd X.mg X.K F0 H0 W REq f)
def DA (es : List Expr) (f : Sls → Res (List PyData)) : Prop := PA X es (rd X.mg X.K F0 H0 W (Dens X.K) f)
def DO (e : Option Expr) (f : Sls → Res (Option Int)) : Prop := PO X e (rd X.mg X.K F0 H0 W REq f)
/-- a new list, kept apart -/
def nOf (mg : Str → Option Value) (K : PySem.W.Frag) (f : Sls → Res (List PyData)) : TE := fun σ H Q =>
  ∃ ρ F, SR K F0 H0 ρ σ H F ∧ match f ρ with
  | .ok ds => ∀ a xs H' F', Gr F H F' H' → H a = none → H' a = some (.lst xs) → F' a = none → Dens K F' xs ds → Q (.ref a) H'
  | .exc x => ∀ cls dd H' F', Gr F H F' H' → ExR mg x cls dd H' → W cls dd σ H'
  | .bad => False
def DN (e : Expr) (f : Sls → Res (List PyData)) : Prop := PE X e (nOf F0 H0 W X.mg X.K f)
end

theorem PE.imp {X : Cx} {e : Expr} {t t' : TE} (h : PE X e t) (k : ∀ σ H Q, t' σ H Q → t σ H Q) : PE X e t' := ⟨fun pins s σ H Q I q => h.run pins s σ H Q I (k σ H Q q)⟩
theorem PT.imp {X : Cx} {e : Expr} {t t' : TT} (h : PT X e t) (k : ∀ σ H Q, t' σ H Q → t σ H Q) : PT X e t' := ⟨fun pins s σ H Q I q => h.run pins s σ H Q I (k σ H Q q)⟩
theorem PW.imp {X : Cx} {e : Expr} {t t' : TT} (h : PW X e t) (k : ∀ σ H Q, t' σ H Q → t σ H Q) : PW X e t' := ⟨fun w pins s σ H Q I q => h.run w pins s σ H Q I (k σ H Q q)⟩
theorem PA.imp {X : Cx} {es : List Expr} {t t' : TA} (h : PA X es t) (k : ∀ σ H Q, t' σ H Q → t σ H Q) : PA X es t' := ⟨fun p pins s σ H Q I q => h.run p pins s σ H Q I (k σ H Q q)⟩
theorem PO.imp {X : Cx} {e : Option Expr} {t t' : TO} (h : PO X e t) (k : ∀ σ H Q, t' σ H Q → t σ H Q) : PO X e t' := ⟨fun pins s σ H Q I q => h.run pins s σ H Q I (k σ H Q q)⟩
theorem PS.imp {X : Cx} {e : Stmt} {t t' : TS} (h : PS X e t) (k : ∀ D σ H, t' D σ H → t D σ H) : PS X e t' := ⟨fun pins s σ H D I q => h.run pins s σ H D I (k D σ H q)⟩
theorem PSs.imp {X : Cx} {e : List Stmt} {t t' : TS} (h : PSs X e t) (k : ∀ D σ H, t' D σ H → t D σ H) : PSs X e t' := ⟨fun pins s σ H D I q => h.run pins s σ H D I (k D σ H q)⟩
theorem PI.imp {X : Cx} {tg e : Expr} {t t' : TI} (h : PI X tg e t) (k : ∀ σ H Q, t' σ H Q → t σ H Q) : PI X tg e t' := ⟨fun pins s σ H Q I q => h.run pins s σ H Q I (k σ H Q q)⟩

/-! ### operations on data -/
def ofO {α : Type} : Option α → Res α
  | some a => .ok a
  | none => .bad
@[simp] theorem ofO_some {α : Type} (a : α) : ofO (some a) = .ok a := nd rfl
@[simp] theorem ofO_none {α : Type} : ofO (none : Option α) = .bad := nd rfl
section
variable (K : PySem.W.Frag)
def Rop (r : Option PyData) (H F : Hp) (Q : VK) : Prop := match r with
  | some d => ∀ v H' F', Gr F H F' H' → Den K F' v d → Q v H'
  | none => False
def r2 (g : PyData → PyData → Option PyData) : R2 := fun x y H Q => ∃ a b F, Ex F H ∧ Den K F x a ∧ Den K F y b ∧ Rop K (g a b) H F Q
def r1 (g : PyData → Option PyData) : V → Hp → VK → Prop := fun x H Q => ∃ a F, Ex F H ∧ Den K F x a ∧ Rop K (g a) H F Q
def rL (g : List PyData → Option PyData) : List V → Hp → VK → Prop := fun xs H Q => ∃ as F, Ex F H ∧ Dens K F xs as ∧ Rop K (g as) H F Q
def rM (g : PyData → List PyData → Option PyData) : V → List V → Hp → VK → Prop := fun x xs H Q => ∃ a as F, Ex F H ∧ Den K F x a ∧ Dens K F xs as ∧ Rop K (g a as) H F Q
end
section
variable {mg : Str → Option Value} {K : PySem.W.Frag} {W : WX} {σ : L2.St} {H F : Hp} {Q : VK}
theorem Rest.rop {r : Option PyData} (h : Rest mg W (Den K) (ofO r) σ H F Q) : Rop K r H F Q := by
  cases r with
  | some a => exact h
  | none => exact h
theorem Rop.val {d : PyData} (e : Ex F H) {v : V} (h : Rop K (some d) H F Q) (q : Den K F v d) : Q v H := h v H F (.refl e) q
theorem Rop.newT (e : Ex F H) {xs : List V} {ds : List PyData} (h : Rop K (some (.tuple ds)) H F Q) (q : Dens K F xs ds) {p : Addr} (hp : H p = none) : Q (.ref p) (upd H p (.tup xs)) := by
  have g := Gr.new (o := .tup xs) e hp
  exact h _ _ _ g (.tup (.inl (.inl upd_same)) (q.mono g.ff))
theorem Rop.newL (e : Ex F H) {xs : List V} {ds : List PyData} (h : Rop K (some (.list ds)) H F Q) (q : Dens K F xs ds) {p : Addr} (hp : H p = none) : Q (.ref p) (upd H p (.lst xs)) := by
  have g := Gr.new (o := .lst xs) e hp
  exact h _ _ _ g (.lst (.inl (.inl upd_same)) (q.mono g.ff))
end

/-! ### the rules of expressions -/
section
variable {X : Cx} {F0 H0 : Hp} {W : WX} {pos : Pos} {a b c e : Expr} {es : List Expr} {f f1 f2 f3 : Sls → Res PyData} {t t1 t2 : Sls → Res Bool} {fs : Sls → Res (List PyData)}
def dVar (i : Nat) (ρ : Sls) : Res PyData := match ρ[i]? with
  | some (.val d) => .ok d
  | _ => .bad
theorem de_var {i : Nat} {x : Str} (h : PE X (.Name x pos) (tVar i)) : DE X F0 H0 W (.Name x pos) (dVar i) := by
  refine PE.imp h fun σ H Q ⟨ρ, F, sr, q⟩ => ?_
  unfold dVar at q
  cases e : ρ[i]? with
  | none => rw [e] at q; exact q.elim
  | some s =>
    rw [e] at q
    cases s with
    | val d =>
      obtain ⟨v, e2, dn⟩ := sr.sl i _ e
      exact ⟨v, e2, q v H F (.refl sr.ex) dn⟩
    | un => exact q.elim
    | own ds => exact q.elim
theorem de_c {v : V} {d : PyData} (h : PE X e (tC v)) (hd : ∀ F, Den X.K F v d) : DE X F0 H0 W e (fun _ => .ok d) :=
  PE.imp h fun σ H Q ⟨ρ, F, sr, q⟩ => q v H F (.refl sr.ex) (hd F)
theorem de_int {i j} : DE X F0 H0 W (.Constant (.int i) j pos) (fun _ => .ok (.int i)) := de_c pe_int fun _ => .int i
theorem de_bl {b j} : DE X F0 H0 W (.Constant (.bool b) j pos) (fun _ => .ok (.bool b)) := de_c pe_bl fun _ => .bl b
theorem de_non {j} : DE X F0 H0 W (.Constant .none j pos) (fun _ => .ok .none) := de_c pe_non fun _ => .non
theorem de_str {x j} : DE X F0 H0 W (.Constant (.str x) j pos) (fun _ => .ok (.str x)) := de_c pe_str fun _ => .str x
theorem de_glob {x : Str} {v : V} {u : Value} {d : PyData} (hg : Gl X x) (hm : X.mg x = some u) (r : RelV v u) (hd : ∀ F, Den X.K F v d) (h : (x == ("__debug__" : Str)) = false := by decide) : DE X F0 H0 W (.Name x pos) (fun _ => .ok d) :=
  de_c (pe_glob hg hm r h) hd

/-- two operands, then an operation on their values -/
theorem two {g : PyData → PyData → Option PyData} {σ : L2.St} {H : Hp} {Q : VK} (h : rd X.mg X.K F0 H0 W (Den X.K) (fun ρ => f1 ρ >>= fun x => f2 ρ >>= fun y => ofO (g x y)) σ H Q) :
    tOp (r2 X.K g) (rd X.mg X.K F0 H0 W (Den X.K) f1) (rd X.mg X.K F0 H0 W (Den X.K) f2) σ H Q := by
  obtain ⟨ρ, F, sr, q⟩ := h
  obtain ⟨ρ1, F1, sr1, q1⟩ := rd_step (R := Den X.K) sr q
  refine ⟨ρ1, F1, sr1, q1.imp fun v H1 F2 a g1 r1 k => ?_⟩
  obtain ⟨a', F3, g3, r3, sr3, q3⟩ := k v H1 F2 (.refl g1.fh) r1
  obtain ⟨ρ4, F4, sr4, q4⟩ := rd_step (R := Den X.K) sr3 q3
  refine ⟨ρ4, F4, sr4, q4.imp fun u H5 F5 b g5 r5 k5 => ?_⟩
  obtain ⟨b', F6, g6, r6, sr6, q6⟩ := k5 u H5 F5 (.refl g5.fh) r5
  exact ⟨a', b', F6, sr6.ex, r3.mono g6.ff, r6, q6.rop⟩
def d2 (g : PyData → PyData → Option PyData) (f1 f2 : Sls → Res PyData) (ρ : Sls) : Res PyData := f1 ρ >>= fun x => f2 ρ >>= fun y => ofO (g x y)
def d1 (g : PyData → Option PyData) (f1 : Sls → Res PyData) (ρ : Sls) : Res PyData := f1 ρ >>= fun x => ofO (g x)
theorem de_bin {op : Operator} {g : PyData → PyData → Option PyData} (ho : OpR X (binaryOp op) (r2 X.K g)) (ha : DE X F0 H0 W a f1) (hb : DE X F0 H0 W b f2) : DE X F0 H0 W (.BinOp a op b pos) (d2 g f1 f2) :=
  PE.imp (pe_op ho ha hb) fun _ _ _ h => two h
theorem de_cmp {op : CmpOp} {g : PyData → PyData → Option PyData} (ho : OpR X (compareOp op) (r2 X.K g)) (ha : DE X F0 H0 W a f1) (hb : DE X F0 H0 W b f2) (hm : behindInMarks op b = false) : DE X F0 H0 W (.Compare a [op] [b] pos) (d2 g f1 f2) :=
  PE.imp (pe_cmpR ho ha hb hm) fun _ _ _ h => two h
theorem de_ix {g : PyData → PyData → Option PyData} (ho : IxR X (r2 X.K g)) (ha : DE X F0 H0 W a f1) (hb : DE X F0 H0 W b f2) (hs : PlainIx b) : DE X F0 H0 W (.Subscript a b pos) (d2 g f1 f2) :=
  PE.imp (pe_ix ho ha hb hs) fun _ _ _ h => two h
theorem one {g : PyData → Option PyData} {σ : L2.St} {H : Hp} {Q : VK} (h : rd X.mg X.K F0 H0 W (Den X.K) (d1 g f1) σ H Q) : tUn (r1 X.K g) (rd X.mg X.K F0 H0 W (Den X.K) f1) σ H Q := by
  obtain ⟨ρ, F, sr, q⟩ := h
  obtain ⟨ρ1, F1, sr1, q1⟩ := rd_step (R := Den X.K) sr q
  refine ⟨ρ1, F1, sr1, q1.imp fun v H1 F2 a g1 r1 k => ?_⟩
  obtain ⟨a', F3, g3, r3, sr3, q3⟩ := k v H1 F2 (.refl g1.fh) r1
  exact ⟨a', F3, sr3.ex, r3, q3.rop⟩
theorem de_un {op : UnaryOp} {g : PyData → Option PyData} (ho : UnR X (unaryOp op) (r1 X.K g)) (ha : DE X F0 H0 W a f1) : DE X F0 H0 W (.UnaryOp op a pos) (d1 g f1) :=
  PE.imp (pe_un ho ha) fun _ _ _ h => one h

/-! arguments -/
theorem da_nil : DA X F0 H0 W [] (fun _ => .ok []) := PA.imp pa_nil fun σ H Q ⟨ρ, F, sr, q⟩ => q [] H F (.refl sr.ex) .nil
def dCons (f : Sls → Res PyData) (fs : Sls → Res (List PyData)) (ρ : Sls) : Res (List PyData) := f ρ >>= fun x => fs ρ >>= fun xs => .ok (x :: xs)
theorem da_cons (ha : DE X F0 H0 W e f) (hr : DA X F0 H0 W es fs) (hs : starEach (e :: es) X.env = (false, eval e X.env) :: starEach es X.env := by rfl) : DA X F0 H0 W (e :: es) (dCons f fs) := by
  refine PA.imp (pa_cons ha hr hs) fun σ H Q ⟨ρ, F, sr, q⟩ => ?_
  obtain ⟨ρ1, F1, sr1, q1⟩ := rd_step (R := Den X.K) sr q
  refine ⟨ρ1, F1, sr1, q1.imp fun v H1 F2 a g1 r1 k => ?_⟩
  obtain ⟨a', F3, g3, r3, sr3, q3⟩ := k v H1 F2 (.refl g1.fh) r1
  obtain ⟨ρ4, F4, sr4, q4⟩ := rd_step (R := Dens X.K) sr3 q3
  refine ⟨ρ4, F4, sr4, q4.imp fun u H5 F5 b g5 r5 k5 => ?_⟩
  obtain ⟨b', F6, g6, r6, sr6, q6⟩ := k5 u H5 F5 (.refl g5.fh) r5
  exact q6 _ _ F6 (.refl sr6.ex) (.cons (r3.mono g6.ff) r6)
def dL (g : List PyData → Option PyData) (fs : Sls → Res (List PyData)) (ρ : Sls) : Res PyData := fs ρ >>= fun xs => ofO (g xs)
theorem manyArgs {g : List PyData → Option PyData} {σ : L2.St} {H : Hp} {Q : VK} (h : rd X.mg X.K F0 H0 W (Den X.K) (dL g fs) σ H Q) : tCB (rL X.K g) (rd X.mg X.K F0 H0 W (Dens X.K) fs) σ H Q := by
  obtain ⟨ρ, F, sr, q⟩ := h
  obtain ⟨ρ1, F1, sr1, q1⟩ := rd_step (R := Dens X.K) sr q
  refine ⟨ρ1, F1, sr1, q1.imp fun v H1 F2 a g1 r1 k => ?_⟩
  obtain ⟨a', F3, g3, r3, sr3, q3⟩ := k v H1 F2 (.refl g1.fh) r1
  exact ⟨a', F3, sr3.ex, r3, q3.rop⟩
theorem de_callB {x : Str} {p : Pos} {id : String} {g : List PyData → Option PyData} (hc : CallR X (.builtin id) (rL X.K g)) (hg : Gl X x) (hm : X.mg x = none) (hv : bootBuiltins x = some (.builtin id)) (ha : DA X F0 H0 W (e :: es) fs) (hn : x ≠ "__name__" := by decide) (hdb : (x == ("__debug__" : Str)) = false := by decide)
    (he : starEach (e :: es) X.env = (false, eval e X.env) :: starEach es X.env := by rfl) (hpl : (backTo pos (starEach es X.env)).any (·.1) = false := by rfl) : DE X F0 H0 W (.Call (.Name x p) (e :: es) [] pos) (dL g fs) :=
  PE.imp (pe_callB hc hg hm hv ha hn hdb he hpl) fun _ _ _ h => manyArgs h
theorem de_callTy {x : Str} {p : Pos} {T : String} {g : List PyData → Option PyData} (hc : CallR X (.type T) (rL X.K g)) (hg : Gl X x) (hm : X.mg x = none) (hv : bootBuiltins x = some (.type T)) (ha : DA X F0 H0 W (e :: es) fs) (hn : x ≠ "__name__" := by decide) (hdb : (x == ("__debug__" : Str)) = false := by decide)
    (he : starEach (e :: es) X.env = (false, eval e X.env) :: starEach es X.env := by rfl) (hpl : (backTo pos (starEach es X.env)).any (·.1) = false := by rfl) : DE X F0 H0 W (.Call (.Name x p) (e :: es) [] pos) (dL g fs) :=
  PE.imp (pe_callTy hc hg hm hv ha hn hdb he hpl) fun _ _ _ h => manyArgs h
theorem de_tup {x1} (h : DA X F0 H0 W es fs) : DE X F0 H0 W (.Tuple es x1 pos) (dL (fun ds => if ds.length ≤ 1000 then some (.tuple ds) else none) fs) := by
  refine PE.imp (pe_tup h) fun σ H Q ⟨ρ, F, sr, q⟩ => ?_
  obtain ⟨ρ1, F1, sr1, q1⟩ := rd_step (R := Dens X.K) sr q
  refine ⟨ρ1, F1, sr1, q1.imp fun v H1 F2 a g1 r1 k => ?_⟩
  obtain ⟨a', F3, g3, r3, sr3, q3⟩ := k v H1 F2 (.refl g1.fh) r1
  have q4 := q3.rop
  have hl := r3.length
  by_cases hz : a'.length ≤ 1000
  · simp only [hz, if_true] at q4
    exact ⟨by rw [hl]; exact Nat.le_trans hz (by decide), fun p hp => q4.newT sr3.ex r3 hp⟩
  · simp only [hz, if_false] at q4
    exact q4.elim
theorem dn_lst (h : DA X F0 H0 W es fs) : DN X F0 H0 W (.List es pos) (fun ρ => fs ρ >>= fun ds => if ds.length ≤ 1000 then .ok ds else .bad) := by
  refine PE.imp (pe_lst h) fun σ H Q ⟨ρ, F, sr, q⟩ => ?_
  refine ⟨ρ, F, sr, ?_⟩
  cases e : fs ρ with
  | ok ds =>
    simp only [e, bind_ok] at q
    intro v H1 F1 g1 r1
    have hl := r1.length
    by_cases hz : ds.length ≤ 1000
    · simp only [hz, if_true] at q
      refine ⟨by rw [hl]; exact Nat.le_trans hz (by decide), fun p hp => ?_⟩
      have hp0 : H p = none := not_of_none g1.hh hp
      exact q p v _ F1 (g1.trans (Gr.newO g1.fh hp)) hp0 upd_same (not_of_none g1.fh hp) r1
    · simp only [hz, if_false] at q
  | exc x => simp only [e, bind_exc] at q; exact q
  | bad => simp only [e, bind_bad] at q
/-- a new list as data -/
theorem DN.de {fs : Sls → Res (List PyData)} (h : DN X F0 H0 W e fs) : DE X F0 H0 W e (fun ρ => fs ρ >>= fun ds => .ok (.list ds)) := by
  refine PE.imp h fun σ H Q ⟨ρ, F, sr, q⟩ => ⟨ρ, F, sr, ?_⟩
  cases e : fs ρ with
  | ok ds =>
    simp only [e, bind_ok] at q
    intro a xs H1 F1 g1 ha hx hF dn
    have hx1 : Ex F1 (upd F1 a (.lst xs)) := Ex.new hF
    refine q (.ref a) H1 (upd F1 a (.lst xs)) ⟨g1.ff.trans hx1, g1.hh, fun b u z => ?_, fun b z1 z2 => ?_⟩ (.lst (.inl (.inl upd_same)) (dn.mono hx1))
    · by_cases hb : b = a
      · subst hb; rw [upd_same] at z; rw [hx]; exact z
      · rw [upd_ne hb] at z; exact g1.fh b u z
    · have hb : b ≠ a := fun z => z2 (z ▸ ha)
      rw [upd_ne hb]; exact g1.nf b z1 z2
  | exc x => simp only [e, bind_exc] at q; exact q
  | bad => simp only [e, bind_bad] at q; exact q

/-! ### tests -/
def asB : PyData → Option Bool
  | .bool b => some b
  | _ => none
/-- a value that is a bool, as a test -/
theorem rdB {σ : L2.St} {H : Hp} {Q : Bool → Hp → Prop} (h : rd X.mg X.K F0 H0 W REq (fun ρ => f ρ >>= fun d => ofO (asB d)) σ H Q) :
    rd X.mg X.K F0 H0 W (Den X.K) f σ H fun x H1 => ∃ k, x = .bl k ∧ Q k H1 := by
  obtain ⟨ρ, F, sr, q⟩ := h
  obtain ⟨ρ1, F1, sr1, q1⟩ := rd_step (R := Den X.K) sr q
  refine ⟨ρ1, F1, sr1, q1.imp fun v H1 F2 d g1 r1 k => ?_⟩
  obtain ⟨a', F3, g3, r3, sr3, q3⟩ := k v H1 F2 (.refl g1.fh) r1
  cases r3 with
  | bl b => exact ⟨b, rfl, q3 b H1 F3 (.refl sr3.ex) rfl⟩
  | _ => exact q3.elim
def dB (f : Sls → Res PyData) (ρ : Sls) : Res Bool := f ρ >>= fun d => ofO (asB d)
theorem dt_val (h : DE X F0 H0 W e f) (he : ∀ whole, isTrue e X.env whole = (do let v ← whole; standAt e.pos; holding [v] (truthy v)) := by intro _; rfl) : DT X F0 H0 W e (dB f) :=
  PT.imp (pt_val h he) fun _ _ _ q => rdB q
theorem dt_cmp {op : CmpOp} {g : PyData → PyData → Option PyData} (ho : OpR X (compareOp op) (r2 X.K g)) (ha : DE X F0 H0 W a f1) (hb : DE X F0 H0 W b f2) (hm : behindInMarks op b = false) : DT X F0 H0 W (.Compare a [op] [b] pos) (dB (d2 g f1 f2)) := by
  refine PT.imp (pt_cmpR ho ha hb hm) fun σ H Q q => ?_
  have q2 := rdB (f := d2 g f1 f2) q
  exact two q2
def truD : PyData → Option Bool
  | .none => some false
  | .bool b => some b
  | .int i => some (i != 0)
  | .str x => if x.length ≤ 16777216 then some ((x.length : Int) != 0) else none
  | .list xs => some (!xs.isEmpty)
  | .tuple xs => some (!xs.isEmpty)
  | .dict kvs => some (!kvs.isEmpty)
theorem empty_dens {K : PySem.W.Frag} {F : Hp} {vs : List V} {ds : List PyData} (h : Dens K F vs ds) : vs.isEmpty = ds.isEmpty := by cases h <;> rfl
theorem empty_denkv {K : PySem.W.Frag} {F : Hp} {vs : List (Key × V)} {ds : List (PyData × PyData)} (h : DenKV K F vs ds) : vs.isEmpty = ds.isEmpty := by cases h <;> rfl
theorem line24 : sizeLine = 16777216 := sizeLine_eq
theorem Den.tru {K : PySem.W.Frag} {F H : Hp} (e : Ex F H) {v : V} {d : PyData} {k : Bool} (h : Den K F v d) (q : truD d = some k) : TruV K v H k := by
  cases h with
  | non => cases q; exact rfl
  | bl b => cases q; exact rfl
  | int i => cases q; exact rfl
  | str x =>
    have q' : (if x.length ≤ 16777216 then some ((x.length : Int) != 0) else none) = some k := q
    by_cases hz : x.length ≤ 16777216
    · rw [if_pos hz] at q'
      cases q'
      exact ⟨by rw [line24]; exact hz, rfl⟩
    · rw [if_neg hz] at q'
      cases q'
  | lst h r => cases q; exact .inl ⟨_, e.sl h, by rw [empty_dens r]⟩
  | tup h r => cases q; exact .inr (.inl ⟨_, e.st h, by rw [empty_dens r]⟩)
  | dic h r => cases q; exact .inr (.inr ⟨_, e _ _ h, by rw [empty_denkv r]⟩)
def dTru (f : Sls → Res PyData) (ρ : Sls) : Res Bool := f ρ >>= fun d => ofO (truD d)
theorem dt_truth (h : DE X F0 H0 W e f) (he : ∀ whole, isTrue e X.env whole = (do let v ← whole; standAt e.pos; holding [v] (truthy v)) := by intro _; rfl) : DT X F0 H0 W e (dTru f) := by
  refine PT.imp (pt_truth h he) fun σ H Q ⟨ρ, F, sr, q⟩ => ?_
  obtain ⟨ρ1, F1, sr1, q1⟩ := rd_step (R := Den X.K) sr q
  refine ⟨ρ1, F1, sr1, q1.imp fun v H1 F2 d g1 r1 k => ?_⟩
  obtain ⟨a', F3, g3, r3, sr3, q3⟩ := k v H1 F2 (.refl g1.fh) r1
  cases e : truD a' with
  | none => rw [e] at q3; exact q3.elim
  | some k => rw [e] at q3; exact ⟨k, r3.tru sr3.ex e, q3 k H1 F3 (.refl sr3.ex) rfl⟩
def dNot (t : Sls → Res Bool) (ρ : Sls) : Res Bool := t ρ >>= fun b => .ok (!b)
def dAnd (t1 t2 : Sls → Res Bool) (ρ : Sls) : Res Bool := t1 ρ >>= fun b => if b = true then t2 ρ else .ok false
def dOr (t1 t2 : Sls → Res Bool) (ρ : Sls) : Res Bool := t1 ρ >>= fun b => if b = true then .ok true else t2 ρ
theorem dt_not (ha : DT X F0 H0 W a t1) : DT X F0 H0 W (.UnaryOp .Not a pos) (dNot t1) := by
  refine PT.imp (pt_not ha) fun σ H Q ⟨ρ, F, sr, q⟩ => ?_
  obtain ⟨ρ1, F1, sr1, q1⟩ := rd_step (R := REq) sr q
  refine ⟨ρ1, F1, sr1, q1.imp fun v H1 F2 d g1 r1 k => ?_⟩
  obtain ⟨a', F3, g3, rfl, sr3, q3⟩ := k v H1 F2 (.refl g1.fh) r1
  exact q3 _ H1 F3 (.refl sr3.ex) rfl
theorem dw_and1 (ha : DT X F0 H0 W a t1) : DW X F0 H0 W (.BoolOp .And [a] pos) t1 := pw_and1 ha
theorem dw_or1 (ha : DT X F0 H0 W a t1) : DW X F0 H0 W (.BoolOp .Or [a] pos) t1 := pw_or1 ha
theorem dw_and {rest : List Expr} (ha : DT X F0 H0 W a t1) (hb : DW X F0 H0 W (.BoolOp .And (b :: rest) pos) t2) : DW X F0 H0 W (.BoolOp .And (a :: b :: rest) pos) (dAnd t1 t2) := by
  refine PW.imp (pw_and ha hb) fun σ H Q ⟨ρ, F, sr, q⟩ => ?_
  refine ⟨ρ, F, sr, ?_⟩
  unfold dAnd at q
  cases e : t1 ρ with
  | ok b' =>
    simp only [e, bind_ok] at q
    intro v H1 F1 g1 r1
    obtain rfl : v = b' := r1
    cases v with
    | true => simp only [if_true] at q ⊢; exact ⟨ρ, F1, sr.grow g1, q.grow g1⟩
    | false => simp only [Bool.false_eq_true, if_false] at q ⊢; exact q false H1 F1 g1 rfl
  | exc x => simp only [e, bind_exc] at q; exact q
  | bad => simp only [e, bind_bad] at q; exact q
theorem dw_or {rest : List Expr} (ha : DT X F0 H0 W a t1) (hb : DW X F0 H0 W (.BoolOp .Or (b :: rest) pos) t2) : DW X F0 H0 W (.BoolOp .Or (a :: b :: rest) pos) (dOr t1 t2) := by
  refine PW.imp (pw_or ha hb) fun σ H Q ⟨ρ, F, sr, q⟩ => ?_
  refine ⟨ρ, F, sr, ?_⟩
  unfold dOr at q
  cases e : t1 ρ with
  | ok b' =>
    simp only [e, bind_ok] at q
    intro v H1 F1 g1 r1
    obtain rfl : v = b' := r1
    cases v with
    | false => simp only [Bool.false_eq_true, if_false] at q ⊢; exact ⟨ρ, F1, sr.grow g1, q.grow g1⟩
    | true => simp only [if_true] at q ⊢; exact q true H1 F1 g1 rfl
  | exc x => simp only [e, bind_exc] at q; exact q
  | bad => simp only [e, bind_bad] at q; exact q
theorem DW.dt (h : DW X F0 H0 W e t) : DT X F0 H0 W e t := PW.pt h

/-! values of and, or, not, if -/
def dIf (t : Sls → Res Bool) (f1 f2 : Sls → Res PyData) (ρ : Sls) : Res PyData := t ρ >>= fun b => if b = true then f1 ρ else f2 ρ
theorem de_ifExp (hc : DT X F0 H0 W c t) (ha : DE X F0 H0 W a f1) (hb : DE X F0 H0 W b f2) : DE X F0 H0 W (.IfExp c a b pos) (dIf t f1 f2) := by
  refine PE.imp (pe_ifExp hc ha hb) fun σ H Q ⟨ρ, F, sr, q⟩ => ?_
  refine ⟨ρ, F, sr, ?_⟩
  unfold dIf at q
  cases e : t ρ with
  | ok b' =>
    simp only [e, bind_ok] at q
    intro v H1 F1 g1 r1
    obtain rfl : v = b' := r1
    cases v with
    | false => simp only [Bool.false_eq_true, if_false] at q ⊢; exact ⟨ρ, F1, sr.grow g1, q.grow g1⟩
    | true => simp only [if_true] at q ⊢; exact ⟨ρ, F1, sr.grow g1, q.grow g1⟩
  | exc x => simp only [e, bind_exc] at q; exact q
  | bad => simp only [e, bind_bad] at q; exact q
/-- x and y, x or y as values, by truth -/
def dAndV (f1 f2 : Sls → Res PyData) (ρ : Sls) : Res PyData := f1 ρ >>= fun d => ofO (truD d) >>= fun b => if b = true then f2 ρ else .ok d
def dOrV (f1 f2 : Sls → Res PyData) (ρ : Sls) : Res PyData := f1 ρ >>= fun d => ofO (truD d) >>= fun b => if b = true then .ok d else f2 ρ
theorem de_one {op} (h : DE X F0 H0 W a f) : DE X F0 H0 W (.BoolOp op [a] pos) f := pe_one h
theorem de_and {rest : List Expr} (ha : DE X F0 H0 W a f1) (hb : DE X F0 H0 W (.BoolOp .And (b :: rest) pos) f2) : DE X F0 H0 W (.BoolOp .And (a :: b :: rest) pos) (dAndV f1 f2) := by
  refine PE.imp (pe_andT ha hb) fun σ H Q ⟨ρ, F, sr, q⟩ => ⟨ρ, F, sr, ?_⟩
  unfold dAndV at q
  cases e : f1 ρ with
  | ok d =>
    simp only [e, bind_ok] at q
    intro v H1 F1 g1 r1
    cases e2 : truD d with
    | none => simp only [e2, ofO_none, bind_bad] at q; exact q.elim
    | some k =>
      simp only [e2, ofO_some, bind_ok] at q
      refine ⟨k, r1.tru g1.fh e2, ?_⟩
      cases k with
      | true => simp only [if_true] at q ⊢; exact ⟨ρ, F1, sr.grow g1, q.grow g1⟩
      | false => simp only [Bool.false_eq_true, if_false] at q ⊢; exact q v H1 F1 g1 r1
  | exc x => simp only [e, bind_exc] at q; exact q
  | bad => simp only [e, bind_bad] at q; exact q
theorem de_or {rest : List Expr} (ha : DE X F0 H0 W a f1) (hb : DE X F0 H0 W (.BoolOp .Or (b :: rest) pos) f2) : DE X F0 H0 W (.BoolOp .Or (a :: b :: rest) pos) (dOrV f1 f2) := by
  refine PE.imp (pe_orT ha hb) fun σ H Q ⟨ρ, F, sr, q⟩ => ⟨ρ, F, sr, ?_⟩
  unfold dOrV at q
  cases e : f1 ρ with
  | ok d =>
    simp only [e, bind_ok] at q
    intro v H1 F1 g1 r1
    cases e2 : truD d with
    | none => simp only [e2, ofO_none, bind_bad] at q; exact q.elim
    | some k =>
      simp only [e2, ofO_some, bind_ok] at q
      refine ⟨k, r1.tru g1.fh e2, ?_⟩
      cases k with
      | false => simp only [Bool.false_eq_true, if_false] at q ⊢; exact ⟨ρ, F1, sr.grow g1, q.grow g1⟩
      | true => simp only [if_true] at q ⊢; exact q v H1 F1 g1 r1
  | exc x => simp only [e, bind_exc] at q; exact q
  | bad => simp only [e, bind_bad] at q; exact q
theorem de_not (ha : DE X F0 H0 W a f1) : DE X F0 H0 W (.UnaryOp .Not a pos) (d1 (fun d => (truD d).map fun b => .bool (!b)) f1) := by
  refine PE.imp (pe_notT ha) fun σ H Q ⟨ρ, F, sr, q⟩ => ?_
  obtain ⟨ρ1, F1, sr1, q1⟩ := rd_step (R := Den X.K) sr q
  refine ⟨ρ1, F1, sr1, q1.imp fun v H1 F2 d g1 r1 k => ?_⟩
  obtain ⟨a', F3, g3, r3, sr3, q3⟩ := k v H1 F2 (.refl g1.fh) r1
  cases e : truD a' with
  | none => simp only [e, Option.map_none] at q3; exact q3.elim
  | some k => simp only [e, Option.map_some] at q3; exact ⟨k, r3.tru sr3.ex e, q3 _ H1 F3 (.refl sr3.ex) (.bl _)⟩
/-- a < b < c -/
def dChain (g g' : PyData → PyData → Option PyData) (f1 f2 f3 : Sls → Res PyData) (ρ : Sls) : Res PyData :=
  f1 ρ >>= fun x => f2 ρ >>= fun y => ofO ((g x y).bind asB) >>= fun k => if k = true then f3 ρ >>= fun z => ofO (g' y z) else .ok (.bool false)
theorem chain {g g' : PyData → PyData → Option PyData} {σ : L2.St} {H : Hp} {Q : VK} (h : rd X.mg X.K F0 H0 W (Den X.K) (dChain g g' f1 f2 f3) σ H Q) :
    tChain (r2 X.K g) (r2 X.K g') (rd X.mg X.K F0 H0 W (Den X.K) f1) (rd X.mg X.K F0 H0 W (Den X.K) f2) (rd X.mg X.K F0 H0 W (Den X.K) f3) σ H Q := by
  obtain ⟨ρ, F, sr, q⟩ := h
  obtain ⟨ρ1, F1, sr1, q1⟩ := rd_step (R := Den X.K) sr q
  refine ⟨ρ1, F1, sr1, q1.imp fun v H1 F2 a g1 r1 k => ?_⟩
  obtain ⟨a', F3, g3, r3, sr3, q3⟩ := k v H1 F2 (.refl g1.fh) r1
  obtain ⟨ρ4, F4, sr4, q4⟩ := rd_step (R := Den X.K) sr3 q3
  refine ⟨ρ4, F4, sr4, q4.imp fun u H5 F5 b g5 r5 k5 => ?_⟩
  obtain ⟨b', F6, g6, r6, sr6, q6⟩ := k5 u H5 F5 (.refl g5.fh) r5
  refine ⟨a', b', F6, sr6.ex, r3.mono g6.ff, r6, ?_⟩
  cases e : g a' b' with
  | none => simp only [e, Option.bind_none, ofO_none, bind_bad] at q6; exact q6.elim
  | some d =>
    simp only [e, Option.bind_some] at q6
    intro w H7 F7 g7 r7
    cases r7 with
    | bl k =>
      simp only [asB, ofO_some, bind_ok] at q6
      refine ⟨k, rfl, ?_⟩
      cases k with
      | false => simp only [Bool.false_eq_true, if_false] at q6 ⊢; exact q6 _ _ F7 g7 (.bl false)
      | true =>
        simp only [if_true] at q6 ⊢
        obtain ⟨ρ8, F8, sr8, q8⟩ := rd_step (R := Den X.K) (sr6.grow g7) (q6.grow g7)
        refine ⟨ρ8, F8, sr8, q8.imp fun z H9 F9 c g9 r9 k9 => ?_⟩
        obtain ⟨c', FA, gA, rA, srA, qA⟩ := k9 z H9 F9 (.refl g9.fh) r9
        exact ⟨b', c', FA, srA.ex, (r6.mono g7.ff).mono gA.ff, rA, qA.rop⟩
    | _ => exact q6.elim
theorem de_chain {op op' : CmpOp} {g g' : PyData → PyData → Option PyData} (ho : OpR X (compareOp op) (r2 X.K g)) (ho' : OpR X (compareOp op') (r2 X.K g')) (ha : DE X F0 H0 W a f1) (hb : DE X F0 H0 W b f2) (hc : DE X F0 H0 W c f3)
    (hm : lastMarks [op, op'] [b, c] = false := by with_unfolding_all rfl) : DE X F0 H0 W (.Compare a [op, op'] [b, c] pos) (dChain g g' f1 f2 f3) := PE.imp (pe_chain ho ho' ha hb hc hm) fun _ _ _ h => chain h
theorem dt_chain {op op' : CmpOp} {g g' : PyData → PyData → Option PyData} (ho : OpR X (compareOp op) (r2 X.K g)) (ho' : OpR X (compareOp op') (r2 X.K g')) (ha : DE X F0 H0 W a f1) (hb : DE X F0 H0 W b f2) (hc : DE X F0 H0 W c f3)
    (hm : lastMarks [op, op'] [b, c] = false := by with_unfolding_all rfl) : DT X F0 H0 W (.Compare a [op, op'] [b, c] pos) (dB (dChain g g' f1 f2 f3)) := by
  refine PT.imp (pt_chain ho ho' ha hb hc hm) fun σ H Q q => ?_
  have q2 := rdB (f := dChain g g' f1 f2 f3) q
  exact chain q2
/-! slices -/
theorem do_none : DO X F0 H0 W none (fun _ => .ok none) := PO.imp po_none fun σ H Q ⟨ρ, F, sr, q⟩ => q none H F (.refl sr.ex) rfl
def asI : PyData → Option Int
  | .int i => some i
  | _ => none
theorem do_some (h : DE X F0 H0 W e f) : DO X F0 H0 W (some e) (fun ρ => f ρ >>= fun d => ofO ((asI d).map some)) := by
  refine PO.imp (po_some h) fun σ H Q ⟨ρ, F, sr, q⟩ => ?_
  obtain ⟨ρ1, F1, sr1, q1⟩ := rd_step (R := Den X.K) sr q
  refine ⟨ρ1, F1, sr1, q1.imp fun v H1 F2 d g1 r1 k => ?_⟩
  obtain ⟨a', F3, g3, r3, sr3, q3⟩ := k v H1 F2 (.refl g1.fh) r1
  cases r3 with
  | int i => exact ⟨i, rfl, q3 _ H1 F3 (.refl sr3.ex) rfl⟩
  | _ => exact q3.elim
def rS (K : PySem.W.Frag) (g : PyData → Option Int → Option Int → Option PyData) : V → Option Int → Option Int → Hp → VK → Prop := fun x lo hi H Q => ∃ a F, Ex F H ∧ Den K F x a ∧ Rop K (g a lo hi) H F Q
def dSl (g : PyData → Option Int → Option Int → Option PyData) (f : Sls → Res PyData) (l u : Sls → Res (Option Int)) (ρ : Sls) : Res PyData := f ρ >>= fun x => l ρ >>= fun i => u ρ >>= fun j => ofO (g x i j)
theorem de_slice {g : PyData → Option Int → Option Int → Option PyData} {lo hi : Option Expr} {p2 : Pos} {l u : Sls → Res (Option Int)} (hr : SlR X (rS X.K g)) (he : DE X F0 H0 W e f) (hl : DO X F0 H0 W lo l) (hu : DO X F0 H0 W hi u) : DE X F0 H0 W (.Subscript e (.Slice lo hi none p2) pos) (dSl g f l u) := by
  refine PE.imp (pe_slice hr he hl hu) fun σ H Q ⟨ρ, F, sr, q⟩ => ?_
  obtain ⟨ρ1, F1, sr1, q1⟩ := rd_step (R := Den X.K) sr q
  refine ⟨ρ1, F1, sr1, q1.imp fun v H1 F2 d g1 r1 k => ?_⟩
  obtain ⟨a', F3, g3, r3, sr3, q3⟩ := k v H1 F2 (.refl g1.fh) r1
  obtain ⟨ρ4, F4, sr4, q4⟩ := rd_step (R := REq) sr3 q3
  refine ⟨ρ4, F4, sr4, q4.imp fun i H5 F5 b g5 r5 k5 => ?_⟩
  obtain ⟨b', F6, g6, rfl, sr6, q6⟩ := k5 i H5 F5 (.refl g5.fh) r5
  obtain ⟨ρ7, F7, sr7, q7⟩ := rd_step (R := REq) sr6 q6
  refine ⟨ρ7, F7, sr7, q7.imp fun j H8 F8 c g8 r8 k8 => ?_⟩
  obtain ⟨c', F9, g9, rfl, sr9, q9⟩ := k8 j H8 F8 (.refl g8.fh) r8
  exact ⟨a', F9, sr9.ex, (r3.mono g6.ff).mono g9.ff, q9.rop⟩
end
end DL

/-! DL3: operations on data. -/
namespace DL
open PySem PySem.Spec PyProof.Rows L2
section
variable {X : Cx}
theorem z24 {n : Nat} (h : n ≤ 16777216) : n ≤ sizeLine := by rw [line24]; exact h

/-! ### + -/
def addD : PyData → PyData → Option PyData
  | .int i, .int j => some (.int (i + j))
  | .str x, .str y => if x.length + y.length ≤ 16777216 then some (.str (x ++ y)) else none
  | .list x, .list y => if x.length + y.length ≤ 16777216 then some (.list (x ++ y)) else none
  | .tuple x, .tuple y => if x.length + y.length ≤ 16777216 then some (.tuple (x ++ y)) else none
  | _, _ => none
/-- list + list, whatever holds them -/
theorem op_catS : OpR X (binaryOp .Add) (fun x y H Q => ∃ l b xs ys, x = .ref l ∧ y = .ref b ∧ SqL X.K H l xs ∧ SqL X.K H b ys ∧ xs.length + ys.length ≤ sizeLine ∧ ∀ p, H p = none → Q (.ref p) (upd H p (.lst (xs ++ ys)))) := by
  intro pins s σ H x y v u Q I rx ry h
  obtain ⟨l, b, xs, ys, rfl, rfl, hH, hB, hz, q⟩ := h
  cases rx
  cases ry
  obtain ⟨its, r1, pl1, _⟩ := I.list hH
  obtain ⟨its2, r2, pl2, _⟩ := I.list hB
  obtain ⟨⟨cls, dd, data, sl⟩, ho, hc, n, hd⟩ := id pl1.isList
  obtain ⟨⟨cls2, dd2, data2, sl2⟩, ho2, hc2, n2, hd2⟩ := id pl2.isList
  simp only at hc hd hc2 hd2
  subst hc hd hc2 hd2
  have e : its.toArray ++ its2.toArray = (its ++ its2).toArray := by simp
  have hl1 := r1.length
  have hl2 := r2.length
  refine concat_meets ⟨_, ho, rfl⟩ ⟨_, ho2, rfl⟩ noFill_list_add seq_list_add PySem.F.slot_list_add PySem.F.entry_list_add (PySem.F.args_list_add_2 _ _) (list_addW l b its.toArray its2.toArray n n2 dd dd2 sl sl2 (by simp only [List.size_toArray]; omega)) ⟨ho, ho2, ?_⟩
  rw [e]
  exact ⟨.ref _, _, I.lnew (t' := s.toks) (r1.append r2) (by rw [List.length_append]; exact hz), rfl, q _ I.fresh⟩
theorem op_addD : OpR X (binaryOp .Add) (r2 X.K addD) := by
  intro pins s σ H x y v u Q I rx ry h
  obtain ⟨a, b, F, ex, da, db, q⟩ := h
  cases da with
  | int i =>
    cases db with
    | int j => exact op_add pins s σ H _ _ v u Q I rx ry ⟨i, j, rfl, rfl, q.val ex (.int _)⟩
    | _ => exact q.elim
  | str i =>
    cases db with
    | str j =>
      by_cases hz : i.length + j.length ≤ 16777216
      · simp only [addD, hz, if_true] at q
        exact op_add_str pins s σ H _ _ v u Q I rx ry ⟨i, j, rfl, rfl, z24 hz, q.val ex (.str _)⟩
      · simp only [addD, hz, if_false] at q
        exact q.elim
    | _ => exact q.elim
  | @lst l xs ds h1 h2 =>
    cases db with
    | @lst b ys es k1 k2 =>
      by_cases hz : ds.length + es.length ≤ 16777216
      · simp only [addD, hz, if_true] at q
        exact op_catS pins s σ H _ _ v u Q I rx ry ⟨l, b, xs, ys, rfl, rfl, ex.sl h1, ex.sl k1, by rw [h2.length, k2.length]; exact z24 hz, fun p hp => q.newL ex (h2.append k2) hp⟩
      · simp only [addD, hz, if_false] at q
        exact q.elim
    | _ => exact q.elim
  | @tup l xs ds h1 h2 =>
    cases db with
    | @tup b ys es k1 k2 =>
      by_cases hz : ds.length + es.length ≤ 16777216
      · simp only [addD, hz, if_true] at q
        refine op_catA pins s σ H _ _ v u Q I rx ry ⟨l, b, xs, ys, rfl, rfl, ex.st h1, ex.st k1, by rw [h2.length, k2.length]; exact z24 hz, fun e => ?_, fun e e2 => ?_, fun _ _ p hp => q.newT ex (h2.append k2) hp⟩
        · have : ds = [] := h2.nil_iff.mp e
          subst this
          exact q.val ex (.tup k1 k2)
        · have : es = [] := k2.nil_iff.mp e2
          subst this
          rw [List.append_nil] at q
          exact q.val ex (.tup h1 h2)
      · simp only [addD, hz, if_false] at q
        exact q.elim
    | _ => exact q.elim
  | _ => exact q.elim

/-! ### ints -/
def subD : PyData → PyData → Option PyData
  | .int i, .int j => some (.int (i - j))
  | _, _ => none
theorem op_subD : OpR X (binaryOp .Sub) (r2 X.K subD) := by
  intro pins s σ H x y v u Q I rx ry h
  obtain ⟨a, b, F, ex, da, db, q⟩ := h
  cases da with
  | int i =>
    cases db with
    | int j => exact op_sub pins s σ H _ _ v u Q I rx ry ⟨i, j, rfl, rfl, q.val ex (.int _)⟩
    | _ => exact q.elim
  | _ => exact q.elim
def mulOk (i j : Int) : Bool := decide (((-(2 ^ 64) < i ∧ i < 2 ^ 64) ∨ (-(2 ^ 64) < j ∧ j < 2 ^ 64)) ∨ i.natAbs.log2 + j.natAbs.log2 < 1000000)
def mulD : PyData → PyData → Option PyData
  | .int i, .int j => if mulOk i j = true then some (.int (i * j)) else none
  | _, _ => none
theorem op_mulD : OpR X (binaryOp .Mult) (r2 X.K mulD) := by
  intro pins s σ H x y v u Q I rx ry h
  obtain ⟨a, b, F, ex, da, db, q⟩ := h
  cases da with
  | int i =>
    cases db with
    | int j =>
      by_cases hz : mulOk i j = true
      · simp only [mulD, hz, if_true] at q
        rcases of_decide_eq_true hz with hz | hz
        · exact op_mul pins s σ H _ _ v u Q I rx ry ⟨i, j, rfl, rfl, hz, q.val ex (.int _)⟩
        · exact op_mulW pins s σ H _ _ v u Q I rx ry ⟨i, j, rfl, rfl, hz, q.val ex (.int _)⟩
      · simp only [mulD, hz] at q
        exact q.elim
    | _ => exact q.elim
  | _ => exact q.elim
/-- the divisor is not 0 and not huge -/
def divOk (j : Int) : Bool := decide (j ≠ 0 ∧ j.natAbs.log2 < 9000)
def fdivD : PyData → PyData → Option PyData
  | .int i, .int j => if divOk j = true then some (.int (i.fdiv j)) else none
  | _, _ => none
theorem op_fdivD : OpR X (binaryOp .FloorDiv) (r2 X.K fdivD) := by
  intro pins s σ H x y v u Q I rx ry h
  obtain ⟨a, b, F, ex, da, db, q⟩ := h
  cases da with
  | int i =>
    cases db with
    | int j =>
      by_cases hz : divOk j = true
      · simp only [fdivD, hz, if_true] at q
        obtain ⟨h0, h1⟩ := of_decide_eq_true hz
        exact (opI (C := fun _ j => j ≠ 0 ∧ j.natAbs.log2 < 9000) (g := fun i j => i.fdiv j) fun _ _ _ _ _ _ _ hc q => floordiv_int hc.1 q (.inl (PyProof.noPylong_of_log2 hc.2))) pins s σ H _ _ v u Q I rx ry ⟨i, j, rfl, rfl, ⟨h0, h1⟩, q.val ex (.int _)⟩
      · simp only [fdivD, hz] at q
        exact q.elim
    | _ => exact q.elim
  | _ => exact q.elim
def modD : PyData → PyData → Option PyData
  | .int i, .int j => if j = 0 then none else some (.int (i.fmod j))
  | _, _ => none
theorem op_modD : OpR X (binaryOp .Mod) (r2 X.K modD) := by
  intro pins s σ H x y v u Q I rx ry h
  obtain ⟨a, b, F, ex, da, db, q⟩ := h
  cases da with
  | int i =>
    cases db with
    | int j =>
      by_cases hz : j = 0
      · simp only [modD, hz, if_true] at q
        exact q.elim
      · simp only [modD, hz, if_false] at q
        exact op_modN pins s σ H _ _ v u Q I rx ry ⟨i, j, rfl, rfl, hz, q.val ex (.int _)⟩
    | _ => exact q.elim
  | _ => exact q.elim
def powD : PyData → PyData → Option PyData
  | .int i, .int j => if 0 ≤ j ∧ j ≤ 1000000 ∧ i.natAbs < 2 ^ 64 then some (.int (i ^ j.toNat)) else none
  | _, _ => none
theorem op_powD : OpR X (binaryOp .Pow) (r2 X.K powD) := by
  intro pins s σ H x y v u Q I rx ry h
  obtain ⟨a, b, F, ex, da, db, q⟩ := h
  cases da with
  | int i =>
    cases db with
    | int j =>
      by_cases hz : 0 ≤ j ∧ j ≤ 1000000 ∧ i.natAbs < 2 ^ 64
      · have q' : Rop X.K (if 0 ≤ j ∧ j ≤ 1000000 ∧ i.natAbs < 2 ^ 64 then some (.int (i ^ j.toNat)) else none) H F Q := q
        rw [if_pos hz] at q'
        exact op_pow pins s σ H _ _ v u Q I rx ry ⟨i, j, rfl, rfl, hz, q'.val ex (.int _)⟩
      · have q' : Rop X.K (if 0 ≤ j ∧ j ≤ 1000000 ∧ i.natAbs < 2 ^ 64 then some (.int (i ^ j.toNat)) else none) H F Q := q
        rw [if_neg hz] at q'
        exact q'.elim
    | _ => exact q.elim
  | _ => exact q.elim
def negD : PyData → Option PyData
  | .int i => some (.int (-i))
  | _ => none
theorem un_negD : UnR X (unaryOp .USub) (r1 X.K negD) := by
  intro pins s σ H x v Q I rx h
  obtain ⟨a, F, ex, da, q⟩ := h
  cases da with
  | int i => exact un_neg pins s σ H _ v Q I rx ⟨i, rfl, q.val ex (.int _)⟩
  | _ => exact q.elim

/-! ### == and != -/
def scalD : PyData → PyData → Bool
  | .none, .none => true | .none, .int _ => true | .int _, .none => true | .none, .bool _ => true | .bool _, .none => true | .none, .str _ => true | .str _, .none => true
  | .int _, .int _ => true | .bool _, .bool _ => true | .str _, .str _ => true
  | .int _, .str _ => true | .str _, .int _ => true | .bool _, .str _ => true | .str _, .bool _ => true
  | _, _ => false
def eqOk (a b : PyData) : Bool := scalD a b || (noDic a && noDic b && SeqAt.shaped a && SeqAt.shaped b)
def eqD (a b : PyData) : Option PyData := if eqOk a b = true then some (.bool (PyData.eqv a b)) else none
def neD (a b : PyData) : Option PyData := if eqOk a b = true then some (.bool (!PyData.eqv a b)) else none
theorem scal_eqv {K : PySem.W.Frag} {F : Hp} {x y : V} {a b : PyData} (da : Den K F x a) (db : Den K F y b) (h : scalD a b = true) : scal x y = true ∧ decide (x = y) = PyData.eqv a b := by
  cases da <;> cases db <;> first
    | exact absurd h Bool.false_ne_true
    | (refine ⟨rfl, ?_⟩; simp only [PyData.eqv]; first | exact dec_int | exact dec_bl | exact dec_str)
    | (refine ⟨rfl, ?_⟩; simp [PyData.eqv])
theorem op_eqV (hu : X.A.units + 64 < cLine) : OpR X (compareOp .Eq) (r2 X.K eqD) := by
  intro pins s σ H x y v u Q I rx ry h
  obtain ⟨a, b, F, ex, da, db, q⟩ := h
  unfold eqD at q
  by_cases hz : eqOk a b = true
  · rw [if_pos hz] at q
    have q2 := q.val ex (.bl _)
    rcases Bool.or_eq_true _ _ |>.mp hz with hz | hz
    · obtain ⟨h1, h2⟩ := scal_eqv da db hz
      exact L2.op_eq pins s σ H _ _ v u Q I rx ry ⟨h1, by rw [h2]; exact q2⟩
    · simp only [Bool.and_eq_true] at hz
      exact op_eqD hu pins s σ H _ _ v u Q I rx ry ⟨a, b, (da.mono ex).dp hz.1.1.1, (db.mono ex).dp hz.1.1.2, hz.1.2, hz.2, q2⟩
  · rw [if_neg hz] at q
    exact q.elim
theorem op_neV (hu : X.A.units + 64 < cLine) : OpR X (compareOp .NotEq) (r2 X.K neD) := by
  intro pins s σ H x y v u Q I rx ry h
  obtain ⟨a, b, F, ex, da, db, q⟩ := h
  unfold neD at q
  by_cases hz : eqOk a b = true
  · rw [if_pos hz] at q
    have q2 := q.val ex (.bl _)
    rcases Bool.or_eq_true _ _ |>.mp hz with hz | hz
    · obtain ⟨h1, h2⟩ := scal_eqv da db hz
      exact L2.op_ne pins s σ H _ _ v u Q I rx ry ⟨h1, by rw [h2]; exact q2⟩
    · simp only [Bool.and_eq_true] at hz
      exact op_neD hu pins s σ H _ _ v u Q I rx ry ⟨a, b, (da.mono ex).dp hz.1.1.1, (db.mono ex).dp hz.1.1.2, hz.1.2, hz.2, q2⟩
  · rw [if_neg hz] at q
    exact q.elim
/-- is None, is not None -/
def isD (a b : PyData) : Option PyData := match b with
  | .none => some (.bool (match a with | .none => true | _ => false))
  | _ => none
def isNotD (a b : PyData) : Option PyData := match b with
  | .none => some (.bool (match a with | .none => false | _ => true))
  | _ => none
theorem op_isD : OpR X (compareOp .Is) (r2 X.K isD) := by
  intro pins s σ H x y v u Q I rx ry h
  obtain ⟨a, b, F, ex, da, db, q⟩ := h
  cases db with
  | non =>
    refine op_isN pins s σ H _ _ v u Q I rx ry ⟨rfl, ?_⟩
    cases da <;> exact q.val ex (.bl _)
  | _ => exact q.elim
theorem op_isNotD : OpR X (compareOp .IsNot) (r2 X.K isNotD) := by
  intro pins s σ H x y v u Q I rx ry h
  obtain ⟨a, b, F, ex, da, db, q⟩ := h
  cases db with
  | non =>
    refine op_notN pins s σ H _ _ v u Q I rx ry ⟨rfl, ?_⟩
    cases da <;> exact q.val ex (.bl _)
  | _ => exact q.elim

/-! ### order -/
def ltD : PyData → PyData → Option PyData
  | .int i, .int j => some (.bool (decide (i < j)))
  | .str x, .str y => some (.bool (decide (x.cps.toList < y.cps.toList)))
  | .bool x, .bool y => some (.bool (decide (b2i x < b2i y)))
  | _, _ => none
def leD : PyData → PyData → Option PyData
  | .int i, .int j => some (.bool (decide (i ≤ j)))
  | .str x, .str y => some (.bool (!decide (y.cps.toList < x.cps.toList)))
  | .bool x, .bool y => some (.bool (decide (b2i x ≤ b2i y)))
  | _, _ => none
def gtD : PyData → PyData → Option PyData
  | .int i, .int j => some (.bool (decide (j < i)))
  | .str x, .str y => some (.bool (decide (y.cps.toList < x.cps.toList)))
  | .bool x, .bool y => some (.bool (decide (b2i y < b2i x)))
  | _, _ => none
def geD : PyData → PyData → Option PyData
  | .int i, .int j => some (.bool (decide (j ≤ i)))
  | .str x, .str y => some (.bool (!decide (x.cps.toList < y.cps.toList)))
  | .bool x, .bool y => some (.bool (decide (b2i y ≤ b2i x)))
  | _, _ => none
theorem op_ltD : OpR X (compareOp .Lt) (r2 X.K ltD) := by
  intro pins s σ H x y v u Q I rx ry h
  obtain ⟨a, b, F, ex, da, db, q⟩ := h
  cases da with
  | int i =>
    cases db with
    | int j => exact op_lt pins s σ H _ _ v u Q I rx ry ⟨i, j, rfl, rfl, q.val ex (.bl _)⟩
    | _ => exact q.elim
  | str i =>
    cases db with
    | str j => exact op_lt_str pins s σ H _ _ v u Q I rx ry ⟨i, j, rfl, rfl, q.val ex (.bl _)⟩
    | _ => exact q.elim
  | bl i =>
    cases db with
    | bl j => cases rx; cases ry; exact lt_bool (fin_bl I (q.val ex (.bl _)) rfl)
    | _ => exact q.elim
  | _ => exact q.elim
theorem op_leD : OpR X (compareOp .LtE) (r2 X.K leD) := by
  intro pins s σ H x y v u Q I rx ry h
  obtain ⟨a, b, F, ex, da, db, q⟩ := h
  cases da with
  | int i =>
    cases db with
    | int j => exact op_le pins s σ H _ _ v u Q I rx ry ⟨i, j, rfl, rfl, q.val ex (.bl _)⟩
    | _ => exact q.elim
  | str i =>
    cases db with
    | str j => exact op_le_str pins s σ H _ _ v u Q I rx ry ⟨i, j, rfl, rfl, q.val ex (.bl _)⟩
    | _ => exact q.elim
  | bl i =>
    cases db with
    | bl j => cases rx; cases ry; exact le_bool (fin_bl I (q.val ex (.bl _)) rfl)
    | _ => exact q.elim
  | _ => exact q.elim
theorem op_gtD : OpR X (compareOp .Gt) (r2 X.K gtD) := by
  intro pins s σ H x y v u Q I rx ry h
  obtain ⟨a, b, F, ex, da, db, q⟩ := h
  cases da with
  | int i =>
    cases db with
    | int j => exact op_gt pins s σ H _ _ v u Q I rx ry ⟨i, j, rfl, rfl, q.val ex (.bl _)⟩
    | _ => exact q.elim
  | str i =>
    cases db with
    | str j => exact op_gt_str pins s σ H _ _ v u Q I rx ry ⟨i, j, rfl, rfl, q.val ex (.bl _)⟩
    | _ => exact q.elim
  | bl i =>
    cases db with
    | bl j => cases rx; cases ry; exact gt_bool (fin_bl I (q.val ex (.bl _)) rfl)
    | _ => exact q.elim
  | _ => exact q.elim
theorem op_geD : OpR X (compareOp .GtE) (r2 X.K geD) := by
  intro pins s σ H x y v u Q I rx ry h
  obtain ⟨a, b, F, ex, da, db, q⟩ := h
  cases da with
  | int i =>
    cases db with
    | int j => exact op_ge pins s σ H _ _ v u Q I rx ry ⟨i, j, rfl, rfl, q.val ex (.bl _)⟩
    | _ => exact q.elim
  | str i =>
    cases db with
    | str j => exact op_ge_str pins s σ H _ _ v u Q I rx ry ⟨i, j, rfl, rfl, q.val ex (.bl _)⟩
    | _ => exact q.elim
  | bl i =>
    cases db with
    | bl j => cases rx; cases ry; exact ge_bool (fin_bl I (q.val ex (.bl _)) rfl)
    | _ => exact q.elim
  | _ => exact q.elim

/-! ### in, not in -/
def seqOf : PyData → Option (List PyData)
  | .list ds => some ds
  | .tuple ds => some ds
  | _ => none
def hasD (x : PyData) (ds : List PyData) : Bool := ds.any fun y => PyData.eqv y x
def inD (x y : PyData) : Option PyData := match y with
  | .list ds => if flatD x = true ∧ ds.all flatD = true then some (.bool (hasD x ds)) else none
  | .tuple ds => if flatD x = true ∧ ds.all flatD = true then some (.bool (hasD x ds)) else none
  | .str z => match x with
    | .str w => some (.bool (!(Builtin.Str.occurrences z w 0 z.length 1).isEmpty))
    | _ => none
  | _ => none
def notInD (x y : PyData) : Option PyData := match y with
  | .list ds => if flatD x = true ∧ ds.all flatD = true then some (.bool (!hasD x ds)) else none
  | .tuple ds => if flatD x = true ∧ ds.all flatD = true then some (.bool (!hasD x ds)) else none
  | .str z => match x with
    | .str w => some (.bool (!(!(Builtin.Str.occurrences z w 0 z.length 1).isEmpty)))
    | _ => none
  | _ => none
theorem eqV_eqv {K : PySem.W.Frag} {F : Hp} {x y : V} {a b : PyData} (da : Den K F x a) (db : Den K F y b) (fa : flatD a = true) (fb : flatD b = true) : eqV x y = PyData.eqv a b := by
  cases da <;> first | (cases fa; done) | skip
  all_goals (cases db <;> first | (cases fb; done) | (simp [eqV, PyData.eqv]; done) | skip)
theorem inV_has {K : PySem.W.Frag} {F : Hp} {x : V} {a : PyData} (da : Den K F x a) (fa : flatD a = true) : ∀ {xs : List V} {ds : List PyData}, Dens K F xs ds → ds.all flatD = true → inV x xs = hasD a ds
  | _, _, .nil, _ => rfl
  | _, _, .cons h q, f => by
    rw [List.all_cons, Bool.and_eq_true] at f
    have ih := inV_has da fa q f.2
    unfold inV hasD at ih ⊢
    rw [List.any_cons, List.any_cons, ih, eqV_eqv h da f.1 fa]
theorem op_inV : OpR X (compareOp .In) (r2 X.K inD) := by
  intro pins s σ H x y v u Q I rx ry h
  obtain ⟨a, b, F, ex, da, db, q⟩ := h
  cases db with
  | @lst l xs ds h1 h2 =>
    by_cases hz : flatD a = true ∧ ds.all flatD = true
    · have q' : Rop X.K (if flatD a = true ∧ ds.all flatD = true then some (.bool (hasD a ds)) else none) H F Q := q
      rw [if_pos hz] at q'
      refine op_in_seq pins s σ H _ _ v u Q I rx ry ⟨l, xs, rfl, .inl (ex.sl h1), da.flatV hz.1, h2.flatV hz.2, ?_⟩
      rw [if_neg Bool.false_ne_true, inV_has da hz.1 h2 hz.2]
      exact q'.val ex (.bl _)
    · have q' : Rop X.K (if flatD a = true ∧ ds.all flatD = true then some (.bool (hasD a ds)) else none) H F Q := q
      rw [if_neg hz] at q'
      exact q'.elim
  | @tup l xs ds h1 h2 =>
    by_cases hz : flatD a = true ∧ ds.all flatD = true
    · have q' : Rop X.K (if flatD a = true ∧ ds.all flatD = true then some (.bool (hasD a ds)) else none) H F Q := q
      rw [if_pos hz] at q'
      refine op_in_seq pins s σ H _ _ v u Q I rx ry ⟨l, xs, rfl, .inr (ex.st h1), da.flatV hz.1, h2.flatV hz.2, ?_⟩
      rw [if_neg Bool.false_ne_true, inV_has da hz.1 h2 hz.2]
      exact q'.val ex (.bl _)
    · have q' : Rop X.K (if flatD a = true ∧ ds.all flatD = true then some (.bool (hasD a ds)) else none) H F Q := q
      rw [if_neg hz] at q'
      exact q'.elim
  | str z =>
    cases da with
    | str w => exact op_in_str pins s σ H _ _ v u Q I rx ry ⟨w, z, rfl, rfl, q.val ex (.bl _)⟩
    | _ => exact q.elim
  | _ => exact q.elim
theorem op_notInV : OpR X (compareOp .NotIn) (r2 X.K notInD) := by
  intro pins s σ H x y v u Q I rx ry h
  obtain ⟨a, b, F, ex, da, db, q⟩ := h
  cases db with
  | @lst l xs ds h1 h2 =>
    by_cases hz : flatD a = true ∧ ds.all flatD = true
    · have q' : Rop X.K (if flatD a = true ∧ ds.all flatD = true then some (.bool (!hasD a ds)) else none) H F Q := q
      rw [if_pos hz] at q'
      refine op_notIn_seq pins s σ H _ _ v u Q I rx ry ⟨l, xs, rfl, .inl (ex.sl h1), da.flatV hz.1, h2.flatV hz.2, ?_⟩
      rw [if_pos rfl, inV_has da hz.1 h2 hz.2]
      exact q'.val ex (.bl _)
    · have q' : Rop X.K (if flatD a = true ∧ ds.all flatD = true then some (.bool (!hasD a ds)) else none) H F Q := q
      rw [if_neg hz] at q'
      exact q'.elim
  | @tup l xs ds h1 h2 =>
    by_cases hz : flatD a = true ∧ ds.all flatD = true
    · have q' : Rop X.K (if flatD a = true ∧ ds.all flatD = true then some (.bool (!hasD a ds)) else none) H F Q := q
      rw [if_pos hz] at q'
      refine op_notIn_seq pins s σ H _ _ v u Q I rx ry ⟨l, xs, rfl, .inr (ex.st h1), da.flatV hz.1, h2.flatV hz.2, ?_⟩
      rw [if_pos rfl, inV_has da hz.1 h2 hz.2]
      exact q'.val ex (.bl _)
    · have q' : Rop X.K (if flatD a = true ∧ ds.all flatD = true then some (.bool (!hasD a ds)) else none) H F Q := q
      rw [if_neg hz] at q'
      exact q'.elim
  | str z =>
    cases da with
    | str w => exact op_notin_str pins s σ H _ _ v u Q I rx ry ⟨w, z, rfl, rfl, q.val ex (.bl _)⟩
    | _ => exact q.elim
  | _ => exact q.elim

/-! ### a[i] -/
def ixD (a b : PyData) : Option PyData := match a, b with
  | .list ds, .int i => atI ds i
  | .tuple ds, .int i => atI ds i
  | .str z, .int i => if z.length ≤ 16777216 then (atI z.cps.toList i).map fun c => .str ⟨#[c]⟩ else none
  | _, _ => none
theorem atI_dens {K : PySem.W.Frag} {F : Hp} {xs : List V} {ds : List PyData} (h : Dens K F xs ds) {i : Int} {d : PyData} (e : atI ds i = some d) : ∃ v, atI xs i = some v ∧ Den K F v d := by
  unfold atI at e ⊢
  rw [h.length]
  cases q : ixN ds.length i with
  | none => rw [q] at e; cases e
  | some j =>
    rw [q] at e
    exact h.get e
theorem ix_D : IxR X (r2 X.K ixD) := by
  intro value slice pins s σ H x y v u Q I rx ry h hs
  obtain ⟨a, b, F, ex, da, db, q⟩ := h
  cases db with
  | int i =>
    cases da with
    | @lst l xs ds h1 h2 =>
      cases e : atI ds i with
      | none => simp only [ixD, e] at q; exact q.elim
      | some d =>
        simp only [ixD, e] at q
        obtain ⟨w, e2, dw⟩ := atI_dens h2 e
        exact ix_list value slice pins s σ H _ _ v u Q I rx ry ⟨l, xs, i, w, rfl, rfl, ex.sl h1, e2, q.val ex dw⟩ hs
    | @tup l xs ds h1 h2 =>
      cases e : atI ds i with
      | none => simp only [ixD, e] at q; exact q.elim
      | some d =>
        simp only [ixD, e] at q
        obtain ⟨w, e2, dw⟩ := atI_dens h2 e
        exact ix_tup value slice pins s σ H _ _ v u Q I rx ry ⟨l, xs, i, w, rfl, rfl, ex.st h1, e2, q.val ex dw⟩ hs
    | str z =>
      by_cases hz : z.length ≤ 16777216
      · cases e : atI z.cps.toList i with
        | none => simp only [ixD, hz, e, if_true, Option.map_none] at q; exact q.elim
        | some c =>
          simp only [ixD, hz, e, if_true, Option.map_some] at q
          exact ix_str value slice pins s σ H _ _ v u Q I rx ry ⟨z, i, c, rfl, rfl, z24 hz, e, q.val ex (.str _)⟩ hs
      · simp only [ixD, hz, if_false] at q; exact q.elim
    | _ => exact q.elim
  | _ => cases da <;> exact q.elim

/-! ### slices -/
def cutD (xs : List PyData) (lo hi : Option Int) : List PyData := (xs.drop (HT.sIx xs.length 0 lo)).take (HT.sIx xs.length xs.length hi - HT.sIx xs.length 0 lo)
def slD (a : PyData) (lo hi : Option Int) : Option PyData := match a with
  | .list ds => some (.list (cutD ds lo hi))
  | .tuple ds => some (.tuple (cutD ds lo hi))
  | .str z => if z.length ≤ 16777216 then some (.str (cutS z lo hi)) else none
  | _ => none
theorem cut_dens {K : PySem.W.Frag} {F : Hp} {xs : List V} {ds : List PyData} (h : Dens K F xs ds) (lo hi : Option Int) : Dens K F (cutV xs lo hi) (cutD ds lo hi) := by
  unfold cutV cutD
  rw [h.length]
  exact (h.drop _).take _
theorem cut_whole (ds : List PyData) (lo hi : Option Int) (h : HT.sIx ds.length 0 lo = 0 ∧ HT.sIx ds.length ds.length hi = ds.length) : cutD ds lo hi = ds := by
  unfold cutD
  rw [h.1, h.2]
  simp
theorem sl_D : SlR X (rS X.K slD) := by
  intro pins s σ H x v vl vu lo hi sl Q I rx hs pl pu h
  obtain ⟨a, F, ex, da, q⟩ := h
  cases da with
  | @lst l xs ds h1 h2 =>
    exact sl_list pins s σ H _ v vl vu lo hi sl Q I rx hs pl pu ⟨l, xs, rfl, ex.sl h1, fun p hp => q.newL ex (cut_dens h2 lo hi) hp⟩
  | @tup l xs ds h1 h2 =>
    refine sl_tupA pins s σ H _ v vl vu lo hi sl Q I rx hs pl pu ⟨l, xs, rfl, ex.st h1, fun hw => ?_, fun _ p hp => q.newT ex (cut_dens h2 lo hi) hp⟩
    rw [h2.length] at hw
    have q' : Rop X.K (some (.tuple (cutD ds lo hi))) H F Q := q
    rw [cut_whole ds lo hi hw] at q'
    exact q'.val ex (.tup h1 h2)
  | str z =>
    by_cases hz : z.length ≤ 16777216
    · simp only [slD, hz, if_true] at q
      exact sl_str pins s σ H _ v vl vu lo hi sl Q I rx hs pl pu ⟨z, rfl, z24 hz, q.val ex (.str _)⟩
    · simp only [slD, hz, if_false] at q
      exact q.elim
  | _ => exact q.elim

/-! ### built-ins -/
def lenD : List PyData → Option PyData
  | [.str z] => if z.length ≤ 16777216 then some (.int z.length) else none
  | [.list ds] => some (.int ds.length)
  | [.tuple ds] => some (.int ds.length)
  | _ => none
theorem call_lenV : CallR X (.builtin "len") (rL X.K lenD) := by
  intro pins s σ H xs us Q I r h
  obtain ⟨as, F, ex, da, q⟩ := h
  cases da with
  | nil => exact q.elim
  | cons d1 d2 =>
    cases d2 with
    | cons _ _ => cases d1 <;> exact q.elim
    | nil =>
      cases d1 with
      | str z =>
        by_cases hz : z.length ≤ 16777216
        · simp only [lenD, hz, if_true] at q
          exact call_len_str pins s σ H _ us Q I r ⟨z, rfl, z24 hz, q.val ex (.int _)⟩
        · simp only [lenD, hz, if_false] at q
          exact q.elim
      | @lst l xs ds h1 h2 =>
        refine call_len_seq pins s σ H _ us Q I r ⟨l, xs, rfl, .inl (ex.sl h1), ?_⟩
        rw [h2.length]
        exact q.val ex (.int _)
      | @tup l xs ds h1 h2 =>
        refine call_len_seq pins s σ H _ us Q I r ⟨l, xs, rfl, .inr (ex.st h1), ?_⟩
        rw [h2.length]
        exact q.val ex (.int _)
      | _ => exact q.elim
def absD : List PyData → Option PyData
  | [.int i] => some (.int (if i < 0 then -i else i))
  | _ => none
theorem call_absV : CallR X (.builtin "abs") (rL X.K absD) := by
  intro pins s σ H xs us Q I r h
  obtain ⟨as, F, ex, da, q⟩ := h
  cases da with
  | nil => exact q.elim
  | cons d1 d2 =>
    cases d2 with
    | cons _ _ => cases d1 <;> exact q.elim
    | nil =>
      cases d1 with
      | int i => exact call_abs pins s σ H _ us Q I r ⟨i, rfl, q.val ex (.int _)⟩
      | _ => exact q.elim
def intD : List PyData → Option PyData
  | [.int i] => some (.int i)
  | [.bool b] => some (.int (if b = true then 1 else 0))
  | _ => none
theorem call_intV : CallR X (.type "int") (rL X.K intD) := by
  intro pins s σ H xs us Q I r h
  obtain ⟨as, F, ex, da, q⟩ := h
  cases da with
  | nil => exact q.elim
  | cons d1 d2 =>
    cases d2 with
    | cons _ _ => cases d1 <;> exact q.elim
    | nil =>
      cases d1 with
      | int i => exact call_int1 pins s σ H _ us Q I r (.inl ⟨i, rfl, q.val ex (.int _)⟩)
      | bl b => exact call_int1 pins s σ H _ us Q I r (.inr ⟨b, rfl, q.val ex (.int _)⟩)
      | _ => exact q.elim
def ordD : List PyData → Option PyData
  | [.str x] => if x.length = 1 then some (.int (x.cps.getD 0 0 : Nat)) else none
  | _ => none
theorem call_ordV : CallR X (.builtin "ord") (rL X.K ordD) := by
  intro pins s σ H xs us Q I r h
  obtain ⟨as, F, ex, da, q⟩ := h
  cases da with
  | nil => exact q.elim
  | cons d1 d2 =>
    cases d2 with
    | cons _ _ => cases d1 <;> exact q.elim
    | nil =>
      cases d1 with
      | str x =>
        by_cases hz : x.length = 1
        · simp only [ordD, hz, if_true] at q
          exact call_ord pins s σ H _ us Q I r ⟨x, rfl, hz, q.val ex (.int _)⟩
        · simp only [ordD, hz, if_false] at q
          exact q.elim
      | _ => exact q.elim
def maxD : List PyData → Option PyData
  | [.int i, .int j] => some (.int (if j > i then j else i))
  | _ => none
def minD : List PyData → Option PyData
  | [.int i, .int j] => some (.int (if j < i then j else i))
  | _ => none
theorem call_max2V (hc : X.calm = true) : CallR X (.builtin "max") (rL X.K maxD) := by
  intro pins s σ H xs us Q I r h
  obtain ⟨as, F, ex, da, q⟩ := h
  cases da with
  | nil => exact q.elim
  | cons d1 d2 =>
    cases d2 with
    | nil => cases d1 <;> exact q.elim
    | cons d3 d4 =>
      cases d4 with
      | cons _ _ => cases d1 <;> cases d3 <;> exact q.elim
      | nil =>
        cases d1 with
        | int i =>
          cases d3 with
          | int j => exact call_max2 hc pins s σ H _ us Q I r ⟨i, j, rfl, q.val ex (.int _)⟩
          | _ => exact q.elim
        | _ => cases d3 <;> exact q.elim
theorem call_min2V (hc : X.calm = true) : CallR X (.builtin "min") (rL X.K minD) := by
  intro pins s σ H xs us Q I r h
  obtain ⟨as, F, ex, da, q⟩ := h
  cases da with
  | nil => exact q.elim
  | cons d1 d2 =>
    cases d2 with
    | nil => cases d1 <;> exact q.elim
    | cons d3 d4 =>
      cases d4 with
      | cons _ _ => cases d1 <;> cases d3 <;> exact q.elim
      | nil =>
        cases d1 with
        | int i =>
          cases d3 with
          | int j => exact call_min2 hc pins s σ H _ us Q I r ⟨i, j, rfl, q.val ex (.int _)⟩
          | _ => exact q.elim
        | _ => cases d3 <;> exact q.elim
/-- tuple(x) -/
def tupleD : List PyData → Option PyData
  | [.list ds] => some (.tuple ds)
  | [.tuple ds] => some (.tuple ds)
  | _ => none
theorem call_tupleV : CallR X (.type "tuple") (rL X.K tupleD) := by
  intro pins s σ H xs us Q I r h
  obtain ⟨as, F, ex, da, q⟩ := h
  cases da with
  | nil => exact q.elim
  | cons d1 d2 =>
    cases d2 with
    | cons _ _ => cases d1 <;> exact q.elim
    | nil =>
      cases d1 with
      | @lst l xs ds h1 h2 => exact call_tuple_of pins s σ H _ us Q I r ⟨l, xs, rfl, .inl ⟨ex.sl h1, fun p hp => q.newT ex h2 hp⟩⟩
      | @tup l xs ds h1 h2 => exact call_tuple_of pins s σ H _ us Q I r ⟨l, xs, rfl, .inr ⟨ex.st h1, q.val ex (.tup h1 h2)⟩⟩
      | _ => exact q.elim
/-- list(x) as data -/
def listD : List PyData → Option PyData
  | [.list ds] => some (.list ds)
  | [.tuple ds] => some (.list ds)
  | _ => none
theorem call_listV : CallR X (.type "list") (rL X.K listD) := by
  intro pins s σ H xs us Q I r h
  obtain ⟨as, F, ex, da, q⟩ := h
  cases da with
  | nil => exact q.elim
  | cons d1 d2 =>
    cases d2 with
    | cons _ _ => cases d1 <;> exact q.elim
    | nil =>
      cases d1 with
      | @lst l xs ds h1 h2 => exact call_list_of pins s σ H _ us Q I r ⟨l, xs, rfl, .inl (ex.sl h1), fun p hp => q.newL ex h2 hp⟩
      | @tup l xs ds h1 h2 => exact call_list_of pins s σ H _ us Q I r ⟨l, xs, rfl, .inr (ex.st h1), fun p hp => q.newL ex h2 hp⟩
      | _ => exact q.elim
def strD : List PyData → Option PyData
  | [.int i] => if i.natAbs.log2 < 1920 then some (.str (toString i)) else none
  | _ => none
theorem call_strV : CallR X (.type "str") (rL X.K strD) := by
  intro pins s σ H xs us Q I r h
  obtain ⟨as, F, ex, da, q⟩ := h
  cases da with
  | nil => exact q.elim
  | cons d1 d2 =>
    cases d2 with
    | cons _ _ => cases d1 <;> exact q.elim
    | nil =>
      cases d1 with
      | int i =>
        by_cases hz : i.natAbs.log2 < 1920
        · simp only [strD, hz, if_true] at q
          exact call_str_int pins s σ H _ us Q I r ⟨i, rfl, hz, q.val ex (.str _)⟩
        · simp only [strD, hz, if_false] at q
          exact q.elim
      | _ => exact q.elim

/-! ### isinstance -/
def IsiOk (tn : String) (g : PyData → Bool) : Prop := ∀ d, kitB (tyOf d) tn = some (g d)
def isInt : PyData → Bool
  | .bool _ => true
  | .int _ => true
  | _ => false
theorem isi_int : IsiOk "int" isInt
  | .none => (show kitB "NoneType" "int" = some false by decide +kernel)
  | .bool _ => (show kitB "bool" "int" = some true by decide +kernel)
  | .int _ => (show kitB "int" "int" = some true by decide +kernel)
  | .str _ => (show kitB "str" "int" = some false by decide +kernel)
  | .list _ => (show kitB "list" "int" = some false by decide +kernel)
  | .tuple _ => (show kitB "tuple" "int" = some false by decide +kernel)
  | .dict _ => (show kitB "dict" "int" = some false by decide +kernel)
def isBool : PyData → Bool
  | .bool _ => true
  | _ => false
theorem isi_bool : IsiOk "bool" isBool
  | .none => (show kitB "NoneType" "bool" = some false by decide +kernel)
  | .bool _ => (show kitB "bool" "bool" = some true by decide +kernel)
  | .int _ => (show kitB "int" "bool" = some false by decide +kernel)
  | .str _ => (show kitB "str" "bool" = some false by decide +kernel)
  | .list _ => (show kitB "list" "bool" = some false by decide +kernel)
  | .tuple _ => (show kitB "tuple" "bool" = some false by decide +kernel)
  | .dict _ => (show kitB "dict" "bool" = some false by decide +kernel)
def isStr : PyData → Bool
  | .str _ => true
  | _ => false
theorem isi_str : IsiOk "str" isStr
  | .none => (show kitB "NoneType" "str" = some false by decide +kernel)
  | .bool _ => (show kitB "bool" "str" = some false by decide +kernel)
  | .int _ => (show kitB "int" "str" = some false by decide +kernel)
  | .str _ => (show kitB "str" "str" = some true by decide +kernel)
  | .list _ => (show kitB "list" "str" = some false by decide +kernel)
  | .tuple _ => (show kitB "tuple" "str" = some false by decide +kernel)
  | .dict _ => (show kitB "dict" "str" = some false by decide +kernel)
def isList : PyData → Bool
  | .list _ => true
  | _ => false
theorem isi_list : IsiOk "list" isList
  | .none => (show kitB "NoneType" "list" = some false by decide +kernel)
  | .bool _ => (show kitB "bool" "list" = some false by decide +kernel)
  | .int _ => (show kitB "int" "list" = some false by decide +kernel)
  | .str _ => (show kitB "str" "list" = some false by decide +kernel)
  | .list _ => (show kitB "list" "list" = some true by decide +kernel)
  | .tuple _ => (show kitB "tuple" "list" = some false by decide +kernel)
  | .dict _ => (show kitB "dict" "list" = some false by decide +kernel)
def isTuple : PyData → Bool
  | .tuple _ => true
  | _ => false
theorem isi_tuple : IsiOk "tuple" isTuple
  | .none => (show kitB "NoneType" "tuple" = some false by decide +kernel)
  | .bool _ => (show kitB "bool" "tuple" = some false by decide +kernel)
  | .int _ => (show kitB "int" "tuple" = some false by decide +kernel)
  | .str _ => (show kitB "str" "tuple" = some false by decide +kernel)
  | .list _ => (show kitB "list" "tuple" = some false by decide +kernel)
  | .tuple _ => (show kitB "tuple" "tuple" = some true by decide +kernel)
  | .dict _ => (show kitB "dict" "tuple" = some false by decide +kernel)
def isDict : PyData → Bool
  | .dict _ => true
  | _ => false
theorem isi_dict : IsiOk "dict" isDict
  | .none => (show kitB "NoneType" "dict" = some false by decide +kernel)
  | .bool _ => (show kitB "bool" "dict" = some false by decide +kernel)
  | .int _ => (show kitB "int" "dict" = some false by decide +kernel)
  | .str _ => (show kitB "str" "dict" = some false by decide +kernel)
  | .list _ => (show kitB "list" "dict" = some false by decide +kernel)
  | .tuple _ => (show kitB "tuple" "dict" = some false by decide +kernel)
  | .dict _ => (show kitB "dict" "dict" = some true by decide +kernel)
end
section
variable {X : Cx} {F0 H0 : Hp} {W : WX} {pos : Pos} {a : Expr} {f : Sls → Res PyData}
theorem de_isi {p p2 : Pos} {x tx : Str} {tn : String} {g : PyData → Bool} (hk : IsiOk tn g) (hg : Gl X x) (hm : X.mg x = none) (hv : bootBuiltins x = some (.builtin "isinstance")) (gt : Gl X tx) (mt : X.mg tx = none) (vt : bootBuiltins tx = some (.type tn)) (ha : DE X F0 H0 W a f) (hn : x ≠ "__name__" := by decide) (hdb : (x == ("__debug__" : Str)) = false := by decide)
    (hn2 : tx ≠ "__name__" := by decide) (hdb2 : (tx == ("__debug__" : Str)) = false := by decide)
    (h1 : starEach [.Name tx p2] X.env = (false, eval (.Name tx p2) X.env) :: starEach [] X.env := by rfl)
    (he : starEach [a, .Name tx p2] X.env = (false, eval a X.env) :: starEach [.Name tx p2] X.env := by rfl) (hpl : (backTo pos (starEach [.Name tx p2] X.env)).any (·.1) = false := by rfl) :
    DE X F0 H0 W (.Call (.Name x p) [a, .Name tx p2] [] pos) (d1 (fun d => some (.bool (g d))) f) := by
  refine PE.imp (pe_callB call_isi hg hm hv (pa_cons ha (pa_cons (pe_bltn (v := .ty tn) gt mt vt rfl hn2 hdb2) pa_nil h1) he) hn hdb he hpl) fun σ H Q ⟨ρ, F, sr, q⟩ => ?_
  obtain ⟨ρ1, F1, sr1, q1⟩ := rd_step (R := Den X.K) sr q
  refine ⟨ρ1, F1, sr1, q1.imp fun v H1 F2 d g1 r1 k => ?_⟩
  obtain ⟨a', F3, g3, r3, sr3, q3⟩ := k v H1 F2 (.refl g1.fh) r1
  exact ⟨v, .ty tn, .type (tyOf a'), .type tn, g a', rfl, .ty tn, r3.tyx sr3.ex, kit_ty (hk a'), q3 _ H1 F3 (.refl sr3.ex) (.bl _)⟩
theorem de_isi2 {p p2 p3 p4 : Pos} {x tx ty : Str} {k : Nat} {tn tm : String} {g g' : PyData → Bool} (hk : IsiOk tn g) (hk2 : IsiOk tm g') (hg : Gl X x) (hm : X.mg x = none) (hv : bootBuiltins x = some (.builtin "isinstance")) (gt : Gl X tx) (mt : X.mg tx = none) (vt : bootBuiltins tx = some (.type tn))
    (gt2 : Gl X ty) (mt2 : X.mg ty = none) (vt2 : bootBuiltins ty = some (.type tm)) (ha : DE X F0 H0 W a f) (hn : x ≠ "__name__" := by decide) (hdb : (x == ("__debug__" : Str)) = false := by decide)
    (hn2 : tx ≠ "__name__" := by decide) (hdb2 : (tx == ("__debug__" : Str)) = false := by decide) (hn3 : ty ≠ "__name__" := by decide) (hdb3 : (ty == ("__debug__" : Str)) = false := by decide)
    (h1 : starEach [.Tuple [.Name tx p2, .Name ty p3] k p4] X.env = (false, eval (.Tuple [.Name tx p2, .Name ty p3] k p4) X.env) :: starEach [] X.env := by rfl)
    (h2 : starEach [.Name tx p2, .Name ty p3] X.env = (false, eval (.Name tx p2) X.env) :: starEach [.Name ty p3] X.env := by rfl)
    (h3 : starEach [.Name ty p3] X.env = (false, eval (.Name ty p3) X.env) :: starEach [] X.env := by rfl)
    (he : starEach [a, .Tuple [.Name tx p2, .Name ty p3] k p4] X.env = (false, eval a X.env) :: starEach [.Tuple [.Name tx p2, .Name ty p3] k p4] X.env := by rfl) (hpl : (backTo pos (starEach [.Tuple [.Name tx p2, .Name ty p3] k p4] X.env)).any (·.1) = false := by rfl) :
    DE X F0 H0 W (.Call (.Name x p) [a, .Tuple [.Name tx p2, .Name ty p3] k p4] [] pos) (d1 (fun d => some (.bool (g d || g' d))) f) := by
  refine PE.imp (pe_callB call_isiT hg hm hv (pa_cons ha (pa_cons (pe_tup (pa_cons (pe_bltn (v := .ty tn) gt mt vt rfl hn2 hdb2) (pa_cons (pe_bltn (v := .ty tm) gt2 mt2 vt2 rfl hn3 hdb3) pa_nil h3) h2)) pa_nil h1) he) hn hdb he hpl) fun σ H Q ⟨ρ, F, sr, q⟩ => ?_
  obtain ⟨ρ1, F1, sr1, q1⟩ := rd_step (R := Den X.K) sr q
  refine ⟨ρ1, F1, sr1, q1.imp fun v H1 F2 d g1 r1 k => ?_⟩
  obtain ⟨a', F3, g3, r3, sr3, q3⟩ := k v H1 F2 (.refl g1.fh) r1
  refine ⟨z24 (show 2 ≤ 16777216 by decide), fun tp hp => ?_⟩
  have gn := Gr.newO (o := .tup [.ty tn, .ty tm]) sr3.ex hp
  refine ⟨v, tp, [.ty tn, .ty tm], .type (tyOf a'), [.type tn, .type tm], g a' || g' a', rfl, upd_same, .cons (.ty tn) (.cons (.ty tm) .nil), (r3.tyx (sr3.ex.trans (Ex.new hp))), ?_, q3 _ _ F3 gn (.bl _)⟩
  refine kitAny_cons (kit_ty (hk a')) (fun e => kitAny_cons (kit_ty (hk2 a')) (fun e2 => ?_) fun e2 => ?_) fun e => ?_
  · rw [e, e2]; exact kitAny_nil
  · rw [e, e2]; rfl
  · rw [e]; rfl
end
end DL

/-! DL4: statements, loops, calls, comprehensions. -/
namespace DL
open PySem PySem.Spec PyProof.Rows L2

inductive Out where
  | nx (ρ : Sls)
  | rt (d : PyData)
  | bk (ρ : Sls)
  | ct (ρ : Sls)
  | exc (x : Xn) (ρ : Sls)
  | bad
section
variable (mg : Str → Option Value) (K : PySem.W.Frag) (F0 H0 : Hp) (W : WX)
def Fin (o : Out) (D : Ends) (F : Hp) : Prop := match o with
  | .nx ρ' => ∀ σ' H' F', SR K F0 H0 ρ' σ' H' F' → Ex F F' → D.nx σ' H'
  | .rt d => ∀ v H' F', Gr F0 H0 F' H' → Ex F F' → Den K F' v d → D.rt v H'
  | .bk ρ' => ∀ σ' H' F', SR K F0 H0 ρ' σ' H' F' → Ex F F' → D.bk σ' H'
  | .ct ρ' => ∀ σ' H' F', SR K F0 H0 ρ' σ' H' F' → Ex F F' → D.ct σ' H'
  | .exc x ρ' => ∀ cls dd σ' H' F', SR K F0 H0 ρ' σ' H' F' → Ex F F' → ExR mg x cls dd H' → W cls dd σ' H'
  | .bad => False
def sOf (g : Sls → Out) : TS := fun D σ H => ∃ ρ F, SR K F0 H0 ρ σ H F ∧ Fin mg K F0 H0 W (g ρ) D F
end
def sE {α : Type} (f : Sls → Res α) (k : α → Sls → Out) (ρ : Sls) : Out := match f ρ with
  | .ok a => k a ρ
  | .exc x => .exc x ρ
  | .bad => .bad
section
variable {mg : Str → Option Value} {K : PySem.W.Frag} {F0 H0 : Hp} {W : WX} {α β : Type} {R : Hp → β → α → Prop} {σ : L2.St} {H F F1 : Hp} {ρ : Sls}
theorem Fin.weak {o : Out} {D : Ends} (e : Ex F F1) (h : Fin mg K F0 H0 W o D F) : Fin mg K F0 H0 W o D F1 := by
  cases o with
  | nx ρ' => exact fun σ' H' F' s x => h σ' H' F' s (e.trans x)
  | rt d => exact fun v H' F' s x => h v H' F' s (e.trans x)
  | bk ρ' => exact fun σ' H' F' s x => h σ' H' F' s (e.trans x)
  | ct ρ' => exact fun σ' H' F' s x => h σ' H' F' s (e.trans x)
  | exc x ρ' => exact fun cls dd σ' H' F' s x => h cls dd σ' H' F' s (e.trans x)
  | bad => exact h
/-- the ends are wished for more -/
theorem Fin.mono {o : Out} {D D' : Ends} (h : Fin mg K F0 H0 W o D F) (h1 : ∀ ρ', o = .nx ρ' → ∀ σ' H' F', SR K F0 H0 ρ' σ' H' F' → Ex F F' → D.nx σ' H' → D'.nx σ' H') (h2 : ∀ d, o = .rt d → ∀ v H' F', Gr F0 H0 F' H' → Ex F F' → Den K F' v d → D.rt v H' → D'.rt v H')
    (h3 : ∀ ρ', o = .bk ρ' → ∀ σ' H' F', SR K F0 H0 ρ' σ' H' F' → Ex F F' → D.bk σ' H' → D'.bk σ' H') (h4 : ∀ ρ', o = .ct ρ' → ∀ σ' H' F', SR K F0 H0 ρ' σ' H' F' → Ex F F' → D.ct σ' H' → D'.ct σ' H') : Fin mg K F0 H0 W o D' F := by
  cases o with
  | nx ρ' => exact fun σ' H' F' s x => h1 ρ' rfl σ' H' F' s x (h σ' H' F' s x)
  | rt d => exact fun v H' F' s x y => h2 d rfl v H' F' s x y (h v H' F' s x y)
  | bk ρ' => exact fun σ' H' F' s x => h3 ρ' rfl σ' H' F' s x (h σ' H' F' s x)
  | ct ρ' => exact fun σ' H' F' s x => h4 ρ' rfl σ' H' F' s x (h σ' H' F' s x)
  | exc x ρ' => exact h
  | bad => exact h
theorem fin_rd {f : Sls → Res α} {k : α → Sls → Out} {D : Ends} (sr : SR K F0 H0 ρ σ H F) (q : Fin mg K F0 H0 W (sE f k ρ) D F) :
    rd mg K F0 H0 W R f σ H (fun v H1 => ∃ a F1, Gr F H F1 H1 ∧ R F1 v a ∧ SR K F0 H0 ρ σ H1 F1 ∧ Fin mg K F0 H0 W (k a ρ) D F1) := by
  refine ⟨ρ, F, sr, ?_⟩
  unfold sE at q
  cases e : f ρ with
  | ok a => rw [e] at q; exact fun v H1 F1 g r => ⟨a, F1, g, r, sr.grow g, q.weak g.ff⟩
  | exc x => rw [e] at q; exact fun cls dd H1 F1 g r => q cls dd σ H1 F1 (sr.grow g) g.ff r
  | bad => rw [e] at q; exact q
end

/-- what every rule of a body may ask of its place -/
structure Cz (X : Cx) (W : WX) (k : Nat) : Prop where
  calm : X.calm = true
  tk : Takes X W
  po : PassesOwn (model X.prog X.w) X.A X.env X.xe
  room : Room k X.A
abbrev WF : WX := fun _ _ _ _ => False
theorem Cz.blk {X : Cx} {W : WX} {k : Nat} (c : Cz X W k) (s : Shared) (H : Hp) (scope : Scope) (cenv : PySem.Env) (fp : List Addr) : Cz (X.blk s H scope cenv fp) WF k := ⟨c.calm, takes0, PassesOwn.never, c.room⟩

section
variable (X : Cx) (F0 H0 : Hp) (W : WX)
def DS (st : Stmt) (g : Sls → Out) : Prop := PS X st (sOf X.mg X.K F0 H0 W g)
def DSs (st : List Stmt) (g : Sls → Out) : Prop := PSs X st (sOf X.mg X.K F0 H0 W g)
end
section
variable {X : Cx} {F0 H0 : Hp} {W : WX} {pos : Pos} {e c : Expr} {st : Stmt} {rest b1 b2 : List Stmt} {f : Sls → Res PyData} {t : Sls → Res Bool} {g g1 g2 : Sls → Out} {k : Nat}
def gNext (ρ : Sls) : Out := .nx ρ
def gSeq (g1 g2 : Sls → Out) (ρ : Sls) : Out := match g1 ρ with
  | .nx ρ' => g2 ρ'
  | o => o
theorem dss_nil : DSs X F0 H0 W [] gNext := PSs.imp pss_nil fun D σ H ⟨ρ, F, sr, q⟩ => q σ H F sr (.refl _)
theorem dss_cons (h1 : DS X F0 H0 W st g1) (h2 : DSs X F0 H0 W rest g2) : DSs X F0 H0 W (st :: rest) (gSeq g1 g2) := by
  refine PSs.imp (pss_cons h1 h2) fun D σ H ⟨ρ, F, sr, q⟩ => ⟨ρ, F, sr, ?_⟩
  unfold gSeq at q
  cases e : g1 ρ with
  | nx ρ' =>
    rw [e] at q
    exact fun σ' H' F' sr' x => ⟨ρ', F', sr', q.weak x⟩
  | rt d => rw [e] at q; exact q
  | bk ρ' => rw [e] at q; exact q
  | ct ρ' => rw [e] at q; exact q
  | exc x ρ' => rw [e] at q; exact q
  | bad => rw [e] at q; exact q
theorem dss_one (h1 : DS X F0 H0 W st g) : DSs X F0 H0 W [st] g := pss_one h1
theorem ds_pass : DS X F0 H0 W (.Pass pos) gNext := PS.imp ps_pass fun D σ H ⟨ρ, F, sr, q⟩ => q σ H F sr (.refl _)
theorem ds_break : DS X F0 H0 W (.Break pos) (fun ρ => .bk ρ) := PS.imp ps_break fun D σ H ⟨ρ, F, sr, q⟩ => q σ H F sr (.refl _)
theorem ds_continue : DS X F0 H0 W (.Continue pos) (fun ρ => .ct ρ) := PS.imp ps_continue fun D σ H ⟨ρ, F, sr, q⟩ => q σ H F sr (.refl _)
def gIf (t : Sls → Res Bool) (g1 g2 : Sls → Out) : Sls → Out := sE t fun b ρ => if b = true then g1 ρ else g2 ρ
theorem ds_if (hc : DT X F0 H0 W c t) (ha : DSs X F0 H0 W b1 g1) (hb : DSs X F0 H0 W b2 g2) : DS X F0 H0 W (.If c b1 b2 pos) (gIf t g1 g2) := by
  refine PS.imp (ps_if hc ha hb) fun D σ H ⟨ρ, F, sr, q⟩ => ?_
  obtain ⟨ρ1, F1, sr1, q1⟩ := fin_rd (R := REq) sr q
  refine ⟨ρ1, F1, sr1, q1.imp fun v H1 F2 a g1 r1 k => ?_⟩
  obtain ⟨a', F3, g3, rfl, sr3, q3⟩ := k v H1 F2 (.refl g1.fh) r1
  cases v with
  | true => simp only [if_true] at q3 ⊢; exact ⟨ρ, F3, sr3, q3⟩
  | false => simp only [Bool.false_eq_true, if_false] at q3 ⊢; exact ⟨ρ, F3, sr3, q3⟩
def gSet (i : Nat) (f : Sls → Res PyData) : Sls → Out := sE f fun d ρ => .nx (ρ.set i (.val d))
theorem ds_set {i : Nat} {x : Str} {pos' : Pos} (hN : X.N.Nodup) (hi : X.N[i]? = some x) (hx : Loc X.env.scope x) (he : DE X F0 H0 W e f) (hs : swapsWith e (some (.Name x pos')) pos.line X.env = pure false := by rfl) (hf : X.fn x = true ∨ X.env.scope.names.lookup x = some .local := by first | exact .inl rfl | exact .inr rfl | assumption) :
    DS X F0 H0 W (.Assign [.Name x pos'] e pos) (gSet i f) := by
  refine PS.imp (ps_set hN hi hx he hs hf) fun D σ H ⟨ρ, F, sr, q⟩ => ?_
  obtain ⟨ρ1, F1, sr1, q1⟩ := fin_rd (R := Den X.K) sr q
  refine ⟨ρ1, F1, sr1, q1.imp fun v H1 F2 a g1 r1 k => ?_⟩
  obtain ⟨a', F3, g3, r3, sr3, q3⟩ := k v H1 F2 (.refl g1.fh) r1
  exact q3 _ H1 F3 (sr3.set r3 i) (.refl _)
/-- x = a new list, kept apart -/
def gSetN (i : Nat) (fs : Sls → Res (List PyData)) : Sls → Out := sE fs fun ds ρ => .nx (ρ.set i (.own ds))
theorem fin_n {fs : Sls → Res (List PyData)} {D : Ends} {σ : L2.St} {H F : Hp} {ρ : Sls} {i : Nat} (sr : SR X.K F0 H0 ρ σ H F) (q : Fin X.mg X.K F0 H0 W (gSetN i fs ρ) D F) : nOf F0 H0 W X.mg X.K fs σ H fun v H1 => D.nx (σ.set i (some v)) H1 := by
  refine ⟨ρ, F, sr, ?_⟩
  unfold gSetN sE at q
  cases e : fs ρ with
  | ok ds =>
    rw [e] at q
    intro a xs H1 F1 g1 ha hx hF dn
    have own : ∀ j, ¬ OwnAt ρ σ j a := fun j o => sr.ownNe o ha
    exact q _ H1 F1 ((sr.grow g1).setO hx hF (not_of_none sr.gr.hh ha) own dn i) g1.ff
  | exc x => rw [e] at q; exact fun cls dd H1 F1 g r => q cls dd σ H1 F1 (sr.grow g) g.ff r
  | bad => rw [e] at q; exact q
theorem ds_setN {i : Nat} {x : Str} {pos' : Pos} {fs : Sls → Res (List PyData)} (hN : X.N.Nodup) (hi : X.N[i]? = some x) (hx : Loc X.env.scope x) (he : DN X F0 H0 W e fs) (hs : swapsWith e (some (.Name x pos')) pos.line X.env = pure false := by rfl) (hf : X.fn x = true ∨ X.env.scope.names.lookup x = some .local := by first | exact .inl rfl | exact .inr rfl | assumption) :
    DS X F0 H0 W (.Assign [.Name x pos'] e pos) (gSetN i fs) :=
  PS.imp (ps_set hN hi hx he hs hf) fun D σ H ⟨ρ, F, sr, q⟩ => fin_n sr q
def gRet (f : Sls → Res PyData) : Sls → Out := sE f fun d _ => .rt d
theorem ds_ret (he : DE X F0 H0 W e f) : DS X F0 H0 W (.Return (some e) pos) (gRet f) := by
  refine PS.imp (ps_ret he) fun D σ H ⟨ρ, F, sr, q⟩ => ?_
  obtain ⟨ρ1, F1, sr1, q1⟩ := fin_rd (R := Den X.K) sr q
  refine ⟨ρ1, F1, sr1, q1.imp fun v H1 F2 a g1 r1 k => ?_⟩
  obtain ⟨a', F3, g3, r3, sr3, q3⟩ := k v H1 F2 (.refl g1.fh) r1
  exact q3 v H1 F3 sr3.gr (.refl _) r3
theorem ds_retN : DS X F0 H0 W (.Return none pos) (fun _ => .rt .none) := PS.imp ps_retN fun D σ H ⟨ρ, F, sr, q⟩ => q .non H F sr.gr (.refl _) .non
def gDrop (f : Sls → Res PyData) : Sls → Out := sE f fun _ ρ => .nx ρ
theorem ds_expr (he : DE X F0 H0 W e f) (hs : swapsWith e none pos.line X.env = pure false := by rfl) : DS X F0 H0 W (.Expr e pos) (gDrop f) := by
  refine PS.imp (ps_expr he hs) fun D σ H ⟨ρ, F, sr, q⟩ => ?_
  obtain ⟨ρ1, F1, sr1, q1⟩ := fin_rd (R := Den X.K) sr q
  refine ⟨ρ1, F1, sr1, q1.imp fun v H1 F2 a g1 r1 k => ?_⟩
  obtain ⟨a', F3, g3, r3, sr3, q3⟩ := k v H1 F2 (.refl g1.fh) r1
  exact q3 _ H1 F3 sr3 (.refl _)
theorem ds_doc {x j} {pos' : Pos} : DS X F0 H0 W (.Expr (.Constant (.str x) j pos) pos') gNext := PS.imp ps_doc fun D σ H ⟨ρ, F, sr, q⟩ => q σ H F sr (.refl _)

/-! an own list is used -/
def frz (i : Nat) (ρ : Sls) : Sls := match ρ[i]? with
  | some (.own ds) => ρ.set i (.val (.list ds))
  | _ => ρ
theorem frz_sr {K : PySem.W.Frag} {σ : L2.St} {H F : Hp} {ρ : Sls} (i : Nat) (sr : SR K F0 H0 ρ σ H F) : ∃ F', Ex F F' ∧ SR K F0 H0 (frz i ρ) σ H F' := by
  unfold frz
  cases e : ρ[i]? with
  | none => exact ⟨F, .refl _, sr⟩
  | some s =>
    cases s with
    | own ds =>
      obtain ⟨a, xs, F', _, _, _, _, _, hx, sr'⟩ := sr.freeze e
      exact ⟨F', hx, sr'⟩
    | val d => exact ⟨F, .refl _, sr⟩
    | un => exact ⟨F, .refl _, sr⟩
/-- from here on slot i is data -/
theorem DS.frz (i : Nat) (h : DS X F0 H0 W st g) : DS X F0 H0 W st (fun ρ => g (frz i ρ)) := PS.imp h fun D σ H ⟨ρ, F, sr, q⟩ => by
  obtain ⟨F', hx, sr'⟩ := frz_sr i sr
  exact ⟨_, F', sr', q.weak hx⟩
theorem DSs.frz (i : Nat) (h : DSs X F0 H0 W rest g) : DSs X F0 H0 W rest (fun ρ => g (frz i ρ)) := PSs.imp h fun D σ H ⟨ρ, F, sr, q⟩ => by
  obtain ⟨F', hx, sr'⟩ := frz_sr i sr
  exact ⟨_, F', sr', q.weak hx⟩
/-- slot i is data for one expression whose value is flat -/
def flatR (r : Res PyData) : Res PyData := match r with
  | .ok d => if flatD d = true then .ok d else .bad
  | .exc _ => .bad
  | .bad => .bad
theorem brw {σ : L2.St} {H F : Hp} {ρ : Sls} (i : Nat) (sr : SR X.K F0 H0 ρ σ H F) : ∃ F', SR X.K F0 H0 (frz i ρ) σ H F' ∧ ∀ H' F2, Gr F' H F2 H' → Gr F H F H' := by
  obtain ⟨F', hx, sr'⟩ := frz_sr i sr
  refine ⟨F', sr', fun H' F2 g => ⟨.refl _, g.hh, sr.ex.trans g.hh, fun _ h _ => h⟩⟩
theorem DE.brw (i : Nat) (h : DE X F0 H0 W e f) : DE X F0 H0 W e (fun ρ => flatR (f (frz i ρ))) := PE.imp h fun σ H Q ⟨ρ, F, sr, q⟩ => by
  obtain ⟨F', sr', gg⟩ := DL.brw i sr
  refine ⟨_, F', sr', ?_⟩
  cases e : f (DL.frz i ρ) with
  | ok d =>
    simp only [e, flatR] at q
    by_cases hd : flatD d = true
    · rw [if_pos hd] at q
      exact fun v H1 F1 g r => q v H1 F (gg H1 F1 g) (r.toFlat hd F)
    · rw [if_neg hd] at q
      exact q.elim
  | exc x => simp only [e, flatR] at q; exact q.elim
  | bad => simp only [e, flatR] at q; exact q.elim
def boolR (r : Res Bool) : Res Bool := match r with
  | .ok d => .ok d
  | .exc _ => .bad
  | .bad => .bad
theorem DT.brw (i : Nat) (h : DT X F0 H0 W e t) : DT X F0 H0 W e (fun ρ => boolR (t (frz i ρ))) := PT.imp h fun σ H Q ⟨ρ, F, sr, q⟩ => by
  obtain ⟨F', sr', gg⟩ := DL.brw i sr
  refine ⟨_, F', sr', ?_⟩
  cases e : t (DL.frz i ρ) with
  | ok d =>
    simp only [e, boolR] at q
    exact fun v H1 F1 g r => q v H1 F (gg H1 F1 g) r
  | exc x => simp only [e, boolR] at q; exact q.elim
  | bad => simp only [e, boolR] at q; exact q.elim
/-- xs.append(e), xs in slot i -/
def gApp (i : Nat) (f : Sls → Res PyData) (ρ : Sls) : Out := match ρ[i]? with
  | some (.own ds) => sE f (fun d ρ => if ds.length < 16777216 then .nx (ρ.set i (.own (ds ++ [d]))) else .bad) ρ
  | _ => .bad
theorem ds_append {i : Nat} {x : Str} {xp apos cpos : Pos} (hv : PE X (.Name x xp) (tVar i)) (he : DE X F0 H0 W e f)
    (hbase : attributeBase (.Name x xp) "append" X.env (eval (.Name x xp) X.env) = eval (.Name x xp) X.env := by rfl)
    (hfew : ((backTo cpos (starEach (e :: []) X.env)).all (fun x => !x.1) && (backToKw cpos (keywordEach [] X.env)).all (fun x => x.1.isSome)
      && decide ((e :: []).length + ([] : List Keyword).length + (if ([] : List Keyword).isEmpty then 0 else 1) < 30)) = true := by rfl)
    (hline : (apos.endLine == cpos.line) = true := by rfl) (hs : starEach (e :: []) X.env = (false, eval e X.env) :: starEach [] X.env := by rfl) (hplain : (backTo cpos (starEach [] X.env)).any (·.1) = false := by rfl)
    (hw : swapsWith (.Call (.Attribute (.Name x xp) "append" apos) (e :: []) [] cpos) none pos.line X.env = pure false := by rfl) :
    DS X F0 H0 W (.Expr (.Call (.Attribute (.Name x xp) "append" apos) (e :: []) [] cpos) pos) (gApp i f) := by
  refine PS.imp (ps_expr (pe_bm PySem.F.plainAttrs_list PySem.F.slot_list_append PySem.F.type_list_append mt_append hv (pa_cons he pa_nil hs) hbase hfew hline hs hplain) hw) fun D σ H ⟨ρ, F, sr, q⟩ => ?_
  unfold gApp at q
  cases e1 : ρ[i]? with
  | none => simp only [e1] at q; exact q.elim
  | some s =>
    cases s with
    | un => simp only [e1] at q; exact q.elim
    | val d => simp only [e1] at q; exact q.elim
    | own ds =>
      simp only [e1] at q
      obtain ⟨a, xs, e2, h1, h2, h3⟩ := sr.sl i _ e1
      refine ⟨.ref a, e2, .inl ⟨rfl, xs, .inl (.inl h1)⟩, ?_⟩
      obtain ⟨ρ1, F1, sr1, q1⟩ := fin_rd (R := Den X.K) sr q
      refine ⟨ρ1, F1, sr1, q1.imp fun v H1 F2 d g1 r1 k => ?_⟩
      obtain ⟨d', F3, g3, r3, sr3, q3⟩ := k v H1 F2 (.refl g1.fh) r1
      obtain ⟨a', xs', e2', h1', h2', h3'⟩ := sr3.sl i _ e1
      rw [e2] at e2'
      have e4 : V.ref a = V.ref a' := Option.some.inj (Option.some.inj e2')
      cases e4
      by_cases hz : ds.length < 16777216
      · simp only [hz, if_true] at q3
        refine ⟨a, xs', v, rfl, rfl, h1', by rw [h3'.length, line24]; exact hz, ?_⟩
        exact q3 σ _ F3 (sr3.change e1 e2 (h3'.append (.cons r3 .nil))) (.refl _)
      · simp only [hz, if_false] at q3
        exact q3.elim

/-! ### targets -/
def gOf (K : PySem.W.Frag) (F0 H0 : Hp) (bt : PyData → Sls → Option Sls) (vs : List Nat) : TG := fun v σ H Q => ∃ ρ F d, SR K F0 H0 ρ σ H F ∧ Den K F v d ∧ match bt d ρ with
  | some ρ' => ∀ σ', SR K F0 H0 ρ' σ' H F → (∀ ws, (∀ i ∈ vs, i ∈ ws) → wipe σ' ws = wipe σ ws) → Q σ' H
  | none => False
def gsOf (K : PySem.W.Frag) (F0 H0 : Hp) (bt : List PyData → Sls → Option Sls) (vs : List Nat) : TGs := fun xs σ H Q => ∃ ρ F ds, SR K F0 H0 ρ σ H F ∧ Dens K F xs ds ∧ match bt ds ρ with
  | some ρ' => ∀ σ', SR K F0 H0 ρ' σ' H F → (∀ ws, (∀ i ∈ vs, i ∈ ws) → wipe σ' ws = wipe σ ws) → Q σ' H
  | none => False
def DG (X : Cx) (F0 H0 : Hp) (e : Expr) (bt : PyData → Sls → Option Sls) (vs : List Nat) : Prop := PG X e (gOf X.K F0 H0 bt vs)
def DGs (X : Cx) (F0 H0 : Hp) (es : List Expr) (bt : List PyData → Sls → Option Sls) (vs : List Nat) : Prop := PGs X es (gsOf X.K F0 H0 bt vs)
theorem PG.imp {X : Cx} {e : Expr} {t t' : TG} (h : PG X e t) (k : ∀ v σ H Q, t' v σ H Q → t v σ H Q) : PG X e t' := ⟨fun pins s σ H v u Q I r q => h.run pins s σ H v u Q I r (k v σ H Q q)⟩
theorem PGs.imp {X : Cx} {e : List Expr} {t t' : TGs} (h : PGs X e t) (k : ∀ v σ H Q, t' v σ H Q → t v σ H Q) : PGs X e t' := ⟨fun pins s σ H v u Q I r q => h.run pins s σ H v u Q I r (k v σ H Q q)⟩
theorem wipe_set_out {σ : L2.St} {i : Nat} {o : Option V} : ∀ {vs : List Nat}, i ∉ vs → wipe (σ.set i o) vs = (wipe σ vs).set i o
  | [], _ => rfl
  | v :: vs, h => by
    have h1 : v ≠ i := fun e => h (by rw [e]; exact List.mem_cons_self)
    have h2 : i ∉ vs := fun m => h (List.mem_cons_of_mem _ m)
    unfold wipe
    rw [wipe_set_out h2, List.set_comm _ _ (Ne.symm h1)]
theorem wipe_set {σ : L2.St} {i : Nat} {o : Option V} : ∀ {vs : List Nat}, i ∈ vs → wipe (σ.set i o) vs = wipe σ vs
  | [], h => by cases h
  | v :: vs, h => by
    unfold wipe
    by_cases h2 : i ∈ vs
    · rw [wipe_set h2]
    · have h1 : i = v := by
        rcases List.mem_cons.mp h with e | m
        · exact e
        · exact absurd m h2
      subst h1
      rw [wipe_set_out h2, List.set_set]
def bName (i : Nat) (d : PyData) (ρ : Sls) : Option Sls := some (ρ.set i (.val d))
theorem dg_name {i : Nat} {x : Str} (hN : X.N.Nodup) (hi : X.N[i]? = some x) (hx : Loc X.env.scope x) (hf : X.fn x = true ∨ X.env.scope.names.lookup x = some .local := by first | exact .inl rfl | exact .inr rfl | assumption) : DG X F0 H0 (.Name x pos) (bName i) [i] :=
  PG.imp (pg_name hN hi hx hf) fun v σ H Q ⟨ρ, F, d, sr, dn, q⟩ => q _ (sr.set dn i) fun ws hw => wipe_set (hw i List.mem_cons_self)
def bNil (ds : List PyData) (ρ : Sls) : Option Sls := match ds with
  | [] => some ρ
  | _ => none
def bCons (b : PyData → Sls → Option Sls) (bs : List PyData → Sls → Option Sls) (ds : List PyData) (ρ : Sls) : Option Sls := match ds with
  | d :: ds => (b d ρ).bind (bs ds)
  | [] => none
theorem dgs_nil : DGs X F0 H0 [] bNil [] := by
  refine PGs.imp pgs_nil fun xs σ H Q ⟨ρ, F, ds, sr, dn, q⟩ => ?_
  cases dn with
  | nil => exact ⟨rfl, q σ sr fun ws _ => rfl⟩
  | cons _ _ => exact q.elim
theorem dgs_cons {es : List Expr} {b : PyData → Sls → Option Sls} {bs : List PyData → Sls → Option Sls} {vs ws : List Nat} (h1 : DG X F0 H0 e b vs) (h2 : DGs X F0 H0 es bs ws)
    (hs : (assignEach (e :: es) X.env).map (·.2) = assign e X.env :: (assignEach es X.env).map (·.2) := by rfl) : DGs X F0 H0 (e :: es) (bCons b bs) (vs ++ ws) := by
  refine PGs.imp (pgs_cons h1 h2 hs) fun xs σ H Q ⟨ρ, F, ds, sr, dn, q⟩ => ?_
  cases dn with
  | nil => exact q.elim
  | @cons v xs d ds r1 r2 =>
    have q' : match (b d ρ).bind (bs ds) with
      | some ρ' => ∀ σ', SR X.K F0 H0 ρ' σ' H F → (∀ zs, (∀ i ∈ vs ++ ws, i ∈ zs) → wipe σ' zs = wipe σ zs) → Q σ' H
      | none => False := q
    refine ⟨v, xs, rfl, ρ, F, d, sr, r1, ?_⟩
    cases e1 : b d ρ with
    | none => rw [e1] at q'; exact q'.elim
    | some ρ1 =>
      rw [e1] at q'
      refine fun σ1 sr1 w1 => ⟨ρ1, F, ds, sr1, r2, ?_⟩
      have q2 : match bs ds ρ1 with
        | some ρ' => ∀ σ', SR X.K F0 H0 ρ' σ' H F → (∀ zs, (∀ i ∈ vs ++ ws, i ∈ zs) → wipe σ' zs = wipe σ zs) → Q σ' H
        | none => False := q'
      cases e2 : bs ds ρ1 with
      | none => rw [e2] at q2; exact q2.elim
      | some ρ2 =>
        rw [e2] at q2
        exact fun σ2 sr2 w2 => q2 σ2 sr2 fun zs hz => (w2 zs fun i hi => hz i (List.mem_append_right _ hi)).trans (w1 zs fun i hi => hz i (List.mem_append_left _ hi))
/-- (a, b, ..) = a tuple, a list -/
def bTup (n : Nat) (bs : List PyData → Sls → Option Sls) (d : PyData) (ρ : Sls) : Option Sls := match d with
  | .tuple ds => if ds.length = n then bs ds ρ else none
  | _ => none
theorem dg_tup {es : List Expr} {k : Nat} {bs : List PyData → Sls → Option Sls} {vs : List Nat} {n : Nat} (hc : X.calm = true) (h : DGs X F0 H0 es bs vs)
    (hn : (assignEach es X.env).length = n := by rfl) (hst : (assignEach es X.env).findIdx? (·.1) = none := by rfl) : DG X F0 H0 (.Tuple es k pos) (bTup n bs) vs := by
  refine PG.imp (pg_tup hc h hn hst) fun v σ H Q ⟨ρ, F, d, sr, dn, q⟩ => ?_
  cases dn with
  | @tup a xs ds h1 h2 =>
    by_cases hz : ds.length = n
    · simp only [bTup, hz, if_true] at q
      exact ⟨a, xs, rfl, sr.ex.st h1, by rw [h2.length]; exact hz, ρ, F, ds, sr, h2, q⟩
    · simp only [bTup, hz, if_false] at q
  | _ => exact q.elim
def bLst (n : Nat) (bs : List PyData → Sls → Option Sls) (d : PyData) (ρ : Sls) : Option Sls := match d with
  | .list ds => if ds.length = n then bs ds ρ else none
  | _ => none
theorem dg_lst {es : List Expr} {k : Nat} {bs : List PyData → Sls → Option Sls} {vs : List Nat} {n : Nat} (hc : X.calm = true) (h : DGs X F0 H0 es bs vs)
    (hn : (assignEach es X.env).length = n := by rfl) (hst : (assignEach es X.env).findIdx? (·.1) = none := by rfl) : DG X F0 H0 (.Tuple es k pos) (bLst n bs) vs := by
  refine PG.imp (pg_lst hc h hn hst) fun v σ H Q ⟨ρ, F, d, sr, dn, q⟩ => ?_
  cases dn with
  | @lst a xs ds h1 h2 =>
    by_cases hz : ds.length = n
    · simp only [bLst, hz, if_true] at q
      exact ⟨a, xs, rfl, sr.ex.sl h1, by rw [h2.length]; exact hz, ρ, F, ds, sr, h2, q⟩
    · simp only [bLst, hz, if_false] at q
  | _ => exact q.elim
/-- target = e -/
def gAsg (f : Sls → Res PyData) (bt : PyData → Sls → Option Sls) : Sls → Out := sE f fun d ρ => match bt d ρ with
  | some ρ' => .nx ρ'
  | none => .bad
theorem ds_asg {tg : Expr} {bt : PyData → Sls → Option Sls} {vs : List Nat} (he : DE X F0 H0 W e f) (hg : DG X F0 H0 tg bt vs) (hs : swapsWithSole [tg] e pos.line X.env = pure false := by rfl) (hw : swappedStores [tg] e X.env = pure none := by rfl)
    (h1 : (assignEach [tg] X.env).map (·.2) = [assign tg X.env] := by rfl) : DS X F0 H0 W (.Assign [tg] e pos) (gAsg f bt) := by
  refine PS.imp (ps_asg he hg hs hw h1) fun D σ H ⟨ρ, F, sr, q⟩ => ?_
  obtain ⟨ρ1, F1, sr1, q1⟩ := fin_rd (R := Den X.K) sr q
  refine ⟨ρ1, F1, sr1, q1.imp fun v H1 F2 a g1 r1 k => ?_⟩
  obtain ⟨a', F3, g3, r3, sr3, q3⟩ := k v H1 F2 (.refl g1.fh) r1
  refine ⟨ρ, F3, a', sr3, r3, ?_⟩
  cases e1 : bt a' ρ with
  | none => simp only [e1] at q3; exact q3.elim
  | some ρ' => simp only [e1] at q3; exact fun σ' sr' _ => q3 σ' H1 F3 sr' (.refl _)
/-- a, b = e1, e2 at once -/
def gPar (i j : Nat) (fs : Sls → Res (List PyData)) : Sls → Out := sE fs fun ds ρ => match ds with
  | [x, y] => .nx ((ρ.set i (.val x)).set j (.val y))
  | _ => .bad
theorem ds_par {i j : Nat} {x y : Str} {a b : Expr} {px py pt : Pos} {kt k2 pt2} {fs : Sls → Res (List PyData)} (hc : X.calm = true) (hN : X.N.Nodup) (hi : X.N[i]? = some x) (hj : X.N[j]? = some y) (hij : i ≠ j)
    (hx : X.env.scope.names.lookup x = some .local) (hy : X.env.scope.names.lookup y = some .local) (ha : DA X F0 H0 W [a, b] fs)
    (hw : swappedStores [.Tuple [.Name x px, .Name y py] kt pt] (.Tuple [a, b] k2 pt2) X.env = pure (some [x, y]))
    (hs : swapsWithSole [.Tuple [.Name x px, .Name y py] kt pt] (.Tuple [a, b] k2 pt2) pos.line X.env = pure false := by rfl) :
    DS X F0 H0 W (.Assign [.Tuple [.Name x px, .Name y py] kt pt] (.Tuple [a, b] k2 pt2) pos) (gPar i j fs) := by
  refine PS.imp (ps_par hc hN hi hj hij hx hy ha hw hs) fun D σ H ⟨ρ, F, sr, q⟩ => ?_
  obtain ⟨ρ1, F1, sr1, q1⟩ := fin_rd (R := Dens X.K) sr q
  refine ⟨ρ1, F1, sr1, q1.imp fun v H1 F2 a g1 r1 k => ?_⟩
  obtain ⟨a', F3, g3, r3, sr3, q3⟩ := k v H1 F2 (.refl g1.fh) r1
  cases r3 with
  | nil => exact q3.elim
  | cons h1 r4 =>
    cases r4 with
    | nil => exact q3.elim
    | cons h2 r5 =>
      cases r5 with
      | nil => exact ⟨_, _, rfl, q3 _ H1 F3 ((sr3.set h1 i).set h2 j) (.refl _)⟩
      | cons _ _ => exact q3.elim
/-- x op= e -/
def gAug (i : Nat) (g : PyData → PyData → Option PyData) (f : Sls → Res PyData) (ρ : Sls) : Out := match ρ[i]? with
  | some (.val x) => sE f (fun y ρ => match g x y with
    | some z => .nx (ρ.set i (.val z))
    | none => .bad) ρ
  | _ => .bad
theorem ds_aug {i : Nat} {x : Str} {op : Operator} {g : PyData → PyData → Option PyData} {pos' : Pos} (hN : X.N.Nodup) (hi : X.N[i]? = some x) (hx : Loc X.env.scope x) (he : DE X F0 H0 W e f) (ho : OpR X (inplaceOp op) (r2 X.K g)) (hf : X.fn x = true ∨ X.env.scope.names.lookup x = some .local := by first | exact .inl rfl | exact .inr rfl | assumption) :
    DS X F0 H0 W (.AugAssign (.Name x pos') op e pos) (gAug i g f) := by
  refine PS.imp (ps_aug (ti := r2 X.K g) hN hi hx he ho hf) fun D σ H ⟨ρ, F, sr, q⟩ => ?_
  unfold gAug at q
  cases e1 : ρ[i]? with
  | none => simp only [e1] at q; exact q.elim
  | some s =>
    cases s with
    | un => simp only [e1] at q; exact q.elim
    | own d => simp only [e1] at q; exact q.elim
    | val d =>
      simp only [e1] at q
      obtain ⟨v, e2, dv⟩ := sr.sl i _ e1
      refine ⟨v, e2, ?_⟩
      obtain ⟨ρ1, F1, sr1, q1⟩ := fin_rd (R := Den X.K) sr q
      refine ⟨ρ1, F1, sr1, q1.imp fun w H1 F2 d2 g1 r1 k => ?_⟩
      obtain ⟨d', F3, g3, r3, sr3, q3⟩ := k w H1 F2 (.refl g1.fh) r1
      refine ⟨d, d', F3, sr3.ex, dv.mono g3.ff, r3, ?_⟩
      cases e3 : g d d' with
      | none => simp only [e3] at q3; exact q3.elim
      | some z =>
        simp only [e3] at q3
        exact fun u H4 F4 g4 r4 => q3 _ H4 F4 ((sr3.grow g4).set r4 i) g4.ff
end
/-! += of ints and texts -/
section
variable {X : Cx}
def iaddD : PyData → PyData → Option PyData
  | .int i, .int j => some (.int (i + j))
  | .str x, .str y => if x.length + y.length ≤ 16777216 then some (.str (x ++ y)) else none
  | _, _ => none
theorem iop_addD : OpR X (inplaceOp .Add) (r2 X.K iaddD) := by
  intro pins s σ H x y v u Q I rx ry h
  obtain ⟨a, b, F, ex, da, db, q⟩ := h
  cases da with
  | int i =>
    cases db with
    | int j => exact iop_add pins s σ H _ _ v u Q I rx ry ⟨i, j, rfl, rfl, q.val ex (.int _)⟩
    | _ => exact q.elim
  | str i =>
    cases db with
    | str j =>
      by_cases hz : i.length + j.length ≤ 16777216
      · simp only [iaddD, hz, if_true] at q
        exact iop_add_str pins s σ H _ _ v u Q I rx ry ⟨i, j, rfl, rfl, z24 hz, q.val ex (.str _)⟩
      · simp only [iaddD, hz, if_false] at q
        exact q.elim
    | _ => exact q.elim
  | _ => exact q.elim
theorem iop_subD : OpR X (inplaceOp .Sub) (r2 X.K subD) := by
  intro pins s σ H x y v u Q I rx ry h
  obtain ⟨a, b, F, ex, da, db, q⟩ := h
  cases da with
  | int i =>
    cases db with
    | int j => exact iop_sub pins s σ H _ _ v u Q I rx ry ⟨i, j, rfl, rfl, q.val ex (.int _)⟩
    | _ => exact q.elim
  | _ => exact q.elim
end
end DL

/-! DL5: what is walked, for, while, comprehensions, calls of defs, a def's body. -/
namespace DL
open PySem PySem.Spec PyProof.Rows L2

/-! ### what is walked -/
structure ItOk (K : PySem.W.Frag) (J : It) (ds : List PyData) (F1 : Hp) : Prop where
  go : ∀ i H, Ex F1 H → i < ds.length → J.go i H
  stop : ∀ i H, Ex F1 H → ds.length ≤ i → J.stop i H
  yld : ∀ i H x H' F d, Ex F1 F → Ex F H → ds[i]? = some d → J.yld i H x H' → ∃ F', Gr F H F' H' ∧ Den K F' x d
def iOf (mg : Str → Option Value) (K : PySem.W.Frag) (F0 H0 : Hp) (W : WX) (f : Sls → Res (List PyData)) : TI := fun σ H R => ∃ ρ F, SR K F0 H0 ρ σ H F ∧ match f ρ with
  | .ok ds => ∀ J H' F', Gr F H F' H' → ItOk K J ds F' → R J H'
  | .exc x => ∀ cls dd H' F', Gr F H F' H' → ExR mg x cls dd H' → W cls dd σ H'
  | .bad => False
def DI (X : Cx) (F0 H0 : Hp) (W : WX) (tg e : Expr) (f : Sls → Res (List PyData)) : Prop := PI X tg e (iOf X.mg X.K F0 H0 W f)
theorem itok_l {K : PySem.W.Frag} {F1 : Hp} {a : Addr} {xs : List V} {ds : List PyData} (h : SqL K F1 a xs) (q : Dens K F1 xs ds) : ItOk K (Itl K a) ds F1 := by
  refine ⟨fun i H e hi => ?_, fun i H e hi => ⟨xs, e.sl h, by rw [q.length]; exact hi⟩, fun i H x H' F d e1 e2 hd y => ?_⟩
  · obtain ⟨v, hv, _⟩ := q.get (List.getElem?_eq_getElem hi)
    exact ⟨xs, v, e.sl h, hv⟩
  · obtain ⟨rfl, y⟩ := y
    obtain ⟨v, hv, dv⟩ := q.get hd
    have := y xs ((e1.trans e2).sl h)
    rw [hv] at this
    cases this
    exact ⟨F, .refl e2, dv.mono e1⟩
theorem itok_t {K : PySem.W.Frag} {F1 : Hp} {a : Addr} {xs : List V} {ds : List PyData} (h : SqT K F1 a xs) (q : Dens K F1 xs ds) : ItOk K (Itt K a) ds F1 := by
  refine ⟨fun i H e hi => ?_, fun i H e hi => ⟨xs, e.st h, by rw [q.length]; exact hi⟩, fun i H x H' F d e1 e2 hd y => ?_⟩
  · obtain ⟨v, hv, _⟩ := q.get (List.getElem?_eq_getElem hi)
    exact ⟨xs, v, e.st h, hv⟩
  · obtain ⟨rfl, y⟩ := y
    obtain ⟨v, hv, dv⟩ := q.get hd
    have := y xs ((e1.trans e2).st h)
    rw [hv] at this
    cases this
    exact ⟨F, .refl e2, dv.mono e1⟩
def signsD (x : Str) : List PyData := x.cps.toList.map fun c => .str ⟨#[c]⟩
theorem itok_s {K : PySem.W.Frag} {F1 : Hp} {x : Str} : ItOk K (Its x) (signsD x) F1 := by
  have hl : (signsD x).length = x.cps.size := by simp [signsD]
  refine ⟨fun i H e hi => by rw [hl] at hi; exact hi, fun i H e hi => by rw [hl] at hi; exact hi, fun i H v H' F d e1 e2 hd y => ?_⟩
  obtain ⟨rfl, c, hc, rfl⟩ := y
  have : d = .str ⟨#[c]⟩ := by
    unfold signsD at hd
    rw [List.getElem?_map, Array.getElem?_toList, hc] at hd
    cases hd
    rfl
  subst this
  exact ⟨F, .refl e2, .str _⟩
def rangeD (lo : Int) (n : Nat) : List PyData := (List.range n).map fun i => .int (lo + (i : Nat))
theorem itok_r {K : PySem.W.Frag} {F1 : Hp} {lo : Int} {n : Nat} : ItOk K (Itr lo n) (rangeD lo n) F1 := by
  have hl : (rangeD lo n).length = n := by simp [rangeD]
  refine ⟨fun i H e hi => by rw [hl] at hi; exact hi, fun i H e hi => by rw [hl] at hi; exact hi, fun i H v H' F d e1 e2 hd y => ?_⟩
  obtain ⟨rfl, rfl⟩ := y
  have hi : i < n := by rw [← hl]; exact (List.getElem?_eq_some_iff.mp hd).1
  have : d = .int (lo + (i : Nat)) := by
    unfold rangeD at hd
    rw [List.getElem?_map, List.getElem?_range hi] at hd
    cases hd
    rfl
  subst this
  exact ⟨F, .refl e2, .int _⟩
section
variable {X : Cx} {F0 H0 : Hp} {W : WX} {pos : Pos} {tg l a b c e : Expr} {f : Sls → Res PyData} {fs : Sls → Res (List PyData)}
/-- a list, a tuple, a text -/
def iAny (K : PySem.W.Frag) (tl : TE) : TI := fun σ H R => tl σ H fun x H1 => (∃ a, x = .ref a ∧ (∃ xs, SqL K H1 a xs) ∧ R (Itl K a) H1) ∨ (∃ a, x = .ref a ∧ (∃ xs, SqT K H1 a xs) ∧ R (Itt K a) H1) ∨ ∃ z, x = .str z ∧ R (Its z) H1
theorem pi_any {tl : TE} (hl : PE X l tl) : PI X tg l (iAny X.K tl) := by
  refine ⟨fun pins s σ H R I h => ?_⟩
  refine thn (hl.run pins s σ H _ I h) fun v s1 ⟨x, H1, I1, r1, q1⟩ => ?_
  rcases q1 with ⟨a, e, ⟨xs, hq⟩, q⟩ | ⟨a, e, ⟨xs, hq⟩, q⟩ | ⟨z, e, q⟩
  · subst e
    cases r1
    obtain ⟨its, rv, p, hz⟩ := I1.list hq
    refine wpAny_pyIter_list p.isList ?_
    refine ⟨s1.heap.objs.size, [s1.heap.objs.size], _, _, H1, rfl, I1.kept (t' := s1.toks) fun b o e => Heap.get?_push_of_some _ e, turn_list a _, ⟨_, Heap.get?_push_size _ rfl, rfl, rfl⟩, fun b hb => ?_, q⟩
    have e : b = s1.heap.objs.size := by simpa using hb
    subst e
    exact I1.fpOk (Nat.le_refl _) (I1.hok.fresh (Nat.le_refl _))
  · subst e
    cases r1
    obtain ⟨its, rv, p, hz⟩ := I1.tuple hq
    refine wpAny_pyIter_tuple (show s1.heap.IsTuple a its.toArray from p) ?_
    refine ⟨s1.heap.objs.size, [s1.heap.objs.size], _, _, H1, rfl, I1.kept (t' := s1.toks) fun b o e => Heap.get?_push_of_some _ e, turn_tuple a _, ⟨_, Heap.get?_push_size _ rfl, rfl, rfl⟩, fun b hb => ?_, q⟩
    have e : b = s1.heap.objs.size := by simpa using hb
    subst e
    exact I1.fpOk (Nat.le_refl _) (I1.hok.fresh (Nat.le_refl _))
  · subst e
    obtain ⟨t, rfl⟩ := r1
    cases ha : z.cps.all (· < 128)
    · exact wpAny_pyIter_wide ha (pi_one (tk := s1.toks) I1 _ (turn_str _ z t "str_iterator" (.inr rfl)) ⟨_, Heap.get?_push_size _ rfl, rfl, rfl⟩ q)
    · exact wpAny_pyIter_ascii ha (pi_one (tk := s1.toks) I1 _ (turn_str _ z t "str_ascii_iterator" (.inl rfl)) ⟨_, Heap.get?_push_size _ rfl, rfl, rfl⟩ q)
def itemsOf : PyData → Option (List PyData)
  | .list ds => some ds
  | .tuple ds => some ds
  | .str z => some (signsD z)
  | _ => none
def dItems (f : Sls → Res PyData) (ρ : Sls) : Res (List PyData) := f ρ >>= fun d => ofO (itemsOf d)
theorem di_any (h : DE X F0 H0 W l f) : DI X F0 H0 W tg l (dItems f) := by
  refine PI.imp (pi_any h) fun σ H R ⟨ρ, F, sr, q⟩ => ⟨ρ, F, sr, ?_⟩
  unfold dItems at q
  cases e : f ρ with
  | ok d =>
    simp only [e, bind_ok] at q
    intro v H1 F1 g1 r1
    cases r1 with
    | @lst a xs ds h1 h2 => exact .inl ⟨a, rfl, ⟨xs, g1.fh.sl h1⟩, q _ H1 F1 g1 (itok_l h1 h2)⟩
    | @tup a xs ds h1 h2 => exact .inr (.inl ⟨a, rfl, ⟨xs, g1.fh.st h1⟩, q _ H1 F1 g1 (itok_t h1 h2)⟩)
    | str z => exact .inr (.inr ⟨z, rfl, q _ H1 F1 g1 itok_s⟩)
    | _ => exact q.elim
  | exc x => simp only [e, bind_exc] at q; exact q
  | bad => simp only [e, bind_bad] at q
def rng1 : List PyData → Option (List PyData)
  | [.int j] => if -(2 ^ 62) ≤ j ∧ j < 2 ^ 62 then some (rangeD 0 j.toNat) else none
  | _ => none
def rng2 : List PyData → Option (List PyData)
  | [.int i, .int j] => if -(2 ^ 62) ≤ i ∧ i < 2 ^ 62 ∧ -(2 ^ 62) ≤ j ∧ j < 2 ^ 62 then some (rangeD i (j - i).toNat) else none
  | _ => none
def dRng (g : List PyData → Option (List PyData)) (fs : Sls → Res (List PyData)) (ρ : Sls) : Res (List PyData) := fs ρ >>= fun ds => ofO (g ds)
theorem di_range1 {p : Pos} (hg : Gl X "range") (hm : X.mg "range" = none) (ha : DA X F0 H0 W [a] fs) (hs : starEach [a] X.env = [(false, eval a X.env)] := by rfl) : DI X F0 H0 W tg (.Call (.Name "range" p) [a] [] pos) (dRng rng1 fs) := by
  refine PI.imp (pi_range1 hg hm ha hs) fun σ H R ⟨ρ, F, sr, q⟩ => ⟨ρ, F, sr, ?_⟩
  unfold dRng at q
  cases e : fs ρ with
  | ok ds =>
    simp only [e, bind_ok] at q
    intro v H1 F1 g1 r1
    cases r1 with
    | nil => exact q.elim
    | cons h1 r2 =>
      cases r2 with
      | cons _ _ => cases h1 <;> exact q.elim
      | nil =>
        cases h1 with
        | int j =>
          by_cases hz : -(2 ^ 62) ≤ j ∧ j < 2 ^ 62
          · simp only [rng1, hz, and_self, if_true] at q
            exact ⟨j, rfl, hz.1, hz.2, q _ H1 F1 g1 itok_r⟩
          · simp only [rng1, hz, if_false] at q
            exact q.elim
        | _ => exact q.elim
  | exc x => simp only [e, bind_exc] at q; exact q
  | bad => simp only [e, bind_bad] at q
theorem di_range2 {p : Pos} (hg : Gl X "range") (hm : X.mg "range" = none) (ha : DA X F0 H0 W [a, b] fs) (hs : starEach [a, b] X.env = [(false, eval a X.env), (false, eval b X.env)] := by rfl) (hs2 : starEach [b] X.env = [(false, eval b X.env)] := by rfl) :
    DI X F0 H0 W tg (.Call (.Name "range" p) [a, b] [] pos) (dRng rng2 fs) := by
  refine PI.imp (pi_range2 hg hm ha hs hs2) fun σ H R ⟨ρ, F, sr, q⟩ => ⟨ρ, F, sr, ?_⟩
  unfold dRng at q
  cases e : fs ρ with
  | ok ds =>
    simp only [e, bind_ok] at q
    intro v H1 F1 g1 r1
    cases r1 with
    | nil => exact q.elim
    | cons h1 r2 =>
      cases r2 with
      | nil => cases h1 <;> exact q.elim
      | cons h2 r3 =>
        cases r3 with
        | cons _ _ => cases h1 <;> cases h2 <;> exact q.elim
        | nil =>
          cases h1 with
          | int i =>
            cases h2 with
            | int j =>
              by_cases hz : -(2 ^ 62) ≤ i ∧ i < 2 ^ 62 ∧ -(2 ^ 62) ≤ j ∧ j < 2 ^ 62
              · have q' := q
                simp only [rng2] at q'
                rw [if_pos hz] at q'
                exact ⟨i, j, rfl, hz, q' _ H1 F1 g1 itok_r⟩
              · have q' := q
                simp only [rng2] at q'
                rw [if_neg hz] at q'
                exact q'.elim
            | _ => exact q.elim
          | _ => cases h2 <;> exact q.elim
  | exc x => simp only [e, bind_exc] at q; exact q
  | bad => simp only [e, bind_bad] at q

/-! ### for -/
def forL (bt : PyData → Sls → Option Sls) (body : Sls → Out) : List PyData → Sls → Out
  | [], ρ => .nx ρ
  | d :: ds, ρ => match bt d ρ with
    | none => .bad
    | some ρ1 => match body ρ1 with
      | .nx ρ2 => forL bt body ds ρ2
      | .ct ρ2 => forL bt body ds ρ2
      | .bk ρ2 => .nx ρ2
      | .rt d => .rt d
      | .exc x ρ2 => .exc x ρ2
      | .bad => .bad
def gFor (fs : Sls → Res (List PyData)) (bt : PyData → Sls → Option Sls) (body : Sls → Out) : Sls → Out := sE fs fun ds ρ => forL bt body ds ρ
theorem ds_for {iter : Expr} {body : List Stmt} {bt : PyData → Sls → Option Sls} {vs : List Nat} {g : Sls → Out} {k : Nat} (c : Cz X W k) (hi : DI X F0 H0 W tg iter fs) (hg : DG X F0 H0 tg bt vs) (hb : DSs X F0 H0 W body g)
    (hs : ∀ x, foldedSetIterable iter X.env x = pure x := by intro _; rfl) : DS X F0 H0 W (.For tg iter body [] pos) (gFor fs bt g) := by
  refine PS.imp (ps_for c.po c.calm hi hg hb hs) fun D σ H ⟨ρ, F, sr, q⟩ => ⟨ρ, F, sr, ?_⟩
  unfold gFor sE at q
  cases e : fs ρ with
  | exc x => simp only [e] at q; exact fun cls dd H1 F1 g r => q cls dd σ H1 F1 (sr.grow g) g.ff r
  | bad => simp only [e] at q; exact q
  | ok ds =>
    simp only [e] at q
    intro J H1 F1 g1 ok
    refine ⟨fun i m σ H => m = ds.length - i ∧ i ≤ ds.length ∧ ∃ ρ F, SR X.K F0 H0 ρ σ H F ∧ Ex F1 F ∧ Fin X.mg X.K F0 H0 W (forL bt g (ds.drop i) ρ) D F, ⟨ds.length, by simp, Nat.zero_le _, ρ, F1, sr.grow g1, .refl _, q.weak g1.ff⟩, ?_⟩
    rintro i m σ2 H2 ⟨rfl, hi, ρ2, F2, sr2, ex2, q2⟩
    by_cases hlt : i < ds.length
    · have hd : ds[i]? = some ds[i] := List.getElem?_eq_getElem hlt
      rw [List.drop_eq_getElem_cons hlt] at q2
      refine .inr ⟨ok.go i H2 (ex2.trans sr2.ex) hlt, fun σ' H' => ∃ ρ' F', SR X.K F0 H0 ρ' σ' H' F' ∧ Ex F1 F' ∧ Fin X.mg X.K F0 H0 W (forL bt g (ds.drop (i + 1)) ρ') D F', fun σ' H' ⟨ρ', F', a, b, c⟩ => ⟨ds.length - (i + 1), by omega, rfl, hlt, ρ', F', a, b, c⟩, fun x H' y => ?_⟩
      obtain ⟨F3, g3, dn⟩ := ok.yld i H2 x H' F2 _ ex2 sr2.ex hd y
      refine ⟨ρ2, F3, ds[i], sr2.grow g3, dn, ?_⟩
      have ex3 : Ex F1 F3 := ex2.trans g3.ff
      have q3 := q2.weak g3.ff
      simp only [forL] at q3
      cases e1 : bt ds[i] ρ2 with
      | none => simp only [e1] at q3; exact q3.elim
      | some ρ3 =>
        simp only [e1] at q3
        refine fun σ3 sr3 _ => ⟨ρ3, F3, sr3, ?_⟩
        cases e2 : g ρ3 with
        | nx ρ4 => simp only [e2] at q3; exact fun σ4 H4 F4 sr4 x4 => ⟨ρ4, F4, sr4, ex3.trans x4, q3.weak x4⟩
        | ct ρ4 => simp only [e2] at q3; exact fun σ4 H4 F4 sr4 x4 => ⟨ρ4, F4, sr4, ex3.trans x4, q3.weak x4⟩
        | bk ρ4 => simp only [e2] at q3; exact q3
        | rt d => simp only [e2] at q3; exact q3
        | exc x ρ4 => simp only [e2] at q3; exact q3
        | bad => simp only [e2] at q3; exact q3
    · have e3 : i = ds.length := by omega
      subst e3
      rw [List.drop_length] at q2
      exact .inl ⟨ok.stop _ H2 (ex2.trans sr2.ex) (Nat.le_refl _), q2 σ2 H2 F2 sr2 (.refl _)⟩

/-! ### while, with a bound on its turns -/
def whileN (t : Sls → Res Bool) (body : Sls → Out) : Nat → Sls → Out
  | 0, _ => .bad
  | n + 1, ρ => match t ρ with
    | .bad => .bad
    | .exc x => .exc x ρ
    | .ok false => .nx ρ
    | .ok true => match body ρ with
      | .nx ρ2 => whileN t body n ρ2
      | .ct ρ2 => whileN t body n ρ2
      | .bk ρ2 => .nx ρ2
      | .rt d => .rt d
      | .exc x ρ2 => .exc x ρ2
      | .bad => .bad
theorem ds_while {cnd : Expr} {body : List Stmt} {t : Sls → Res Bool} {g : Sls → Out} {k : Nat} (n : Sls → Nat) (c : Cz X W k) (hc : DT X F0 H0 W cnd t) (hb : DSs X F0 H0 W body g) : DS X F0 H0 W (.While cnd body [] pos) (fun ρ => whileN t g (n ρ) ρ) := by
  refine PS.imp (ps_while c.po hc hb) fun D σ H ⟨ρ, F, sr, q⟩ => ?_
  refine ⟨fun m σ H => ∃ ρ F, SR X.K F0 H0 ρ σ H F ∧ Fin X.mg X.K F0 H0 W (whileN t g m ρ) D F, ⟨n ρ, ρ, F, sr, q⟩, ?_⟩
  rintro m σ1 H1 ⟨ρ1, F1, sr1, q1⟩
  cases m with
  | zero => exact q1.elim
  | succ m =>
    refine ⟨ρ1, F1, sr1, ?_⟩
    simp only [whileN] at q1
    cases e : t ρ1 with
    | bad => simp only [e] at q1; exact q1
    | exc x => simp only [e] at q1; exact fun cls dd H2 F2 g r => q1 cls dd σ1 H2 F2 (sr1.grow g) g.ff r
    | ok b =>
      intro v H2 F2 g2 r2
      obtain rfl : v = b := r2
      cases v with
      | false => simp only [e] at q1; simp only [Bool.false_eq_true, if_false]; exact q1 σ1 H2 F2 (sr1.grow g2) g2.ff
      | true =>
        simp only [e] at q1
        simp only [if_true]
        refine ⟨fun σ' H' => ∃ ρ' F', SR X.K F0 H0 ρ' σ' H' F' ∧ Fin X.mg X.K F0 H0 W (whileN t g m ρ') D F', fun σ' H' ⟨ρ', F', a, b⟩ => ⟨m, Nat.lt_succ_self _, ρ', F', a, b⟩, ρ1, F2, sr1.grow g2, ?_⟩
        have q2 := q1.weak g2.ff
        cases e2 : g ρ1 with
        | nx ρ4 => simp only [e2] at q2; exact fun σ4 H4 F4 sr4 x4 => ⟨ρ4, F4, sr4, q2.weak x4⟩
        | ct ρ4 => simp only [e2] at q2; exact fun σ4 H4 F4 sr4 x4 => ⟨ρ4, F4, sr4, q2.weak x4⟩
        | bk ρ4 => simp only [e2] at q2; exact q2
        | rt d => simp only [e2] at q2; exact q2
        | exc x ρ4 => simp only [e2] at q2; exact q2
        | bad => simp only [e2] at q2; exact q2

/-! ### comprehensions -/
def wipeS (ρ : Sls) : List Nat → Sls
  | [] => ρ
  | v :: vs => (wipeS ρ vs).set v .un
theorem SR.wipe1 {K : PySem.W.Frag} {σ : L2.St} {H F : Hp} {ρ : Sls} (r : SR K F0 H0 ρ σ H F) (i : Nat) : SR K F0 H0 (ρ.set i .un) (σ.set i none) H F := by
  have ow : ∀ j a, OwnAt (ρ.set i .un) (σ.set i none) j a → j ≠ i ∧ OwnAt ρ σ j a := fun j a ⟨⟨ds, e1⟩, e2⟩ => by
    by_cases hj : j = i
    · subst hj
      by_cases hl : j < ρ.length
      · rw [List.getElem?_set_self hl] at e1; cases e1
      · rw [List.getElem?_eq_none (by simpa using hl)] at e1; cases e1
    · rw [List.getElem?_set_ne (Ne.symm hj)] at e1 e2
      exact ⟨hj, ⟨ds, e1⟩, e2⟩
  refine ⟨r.gr, by simp [r.len], fun j s e => ?_, fun j a o => r.own0 j a (ow j a o).2, fun j k a o1 o2 => r.sep j k a (ow j a o1).2 (ow k a o2).2⟩
  by_cases hj : j = i
  · subst hj
    by_cases hl : j < ρ.length
    · rw [List.getElem?_set_self hl] at e; cases e
      exact True.intro
    · rw [List.getElem?_eq_none (by simpa using hl)] at e; cases e
  · rw [List.getElem?_set_ne (Ne.symm hj)] at e ⊢
    exact r.sl j s e
theorem SR.wipeAll {K : PySem.W.Frag} {σ : L2.St} {H F : Hp} {ρ : Sls} (r : SR K F0 H0 ρ σ H F) : ∀ vs : List Nat, SR K F0 H0 (wipeS ρ vs) (wipe σ vs) H F
  | [] => r
  | v :: vs => (SR.wipeAll r vs).wipe1 v
theorem wipe_sub {σ : L2.St} {vs : List Nat} : ∀ {us : List Nat}, (∀ i ∈ us, i ∈ vs) → wipe (wipe σ us) vs = wipe σ vs
  | [], _ => rfl
  | u :: us, h => by
    show wipe ((wipe σ us).set u none) vs = wipe σ vs
    rw [wipe_set (h u List.mem_cons_self)]
    exact wipe_sub fun i hi => h i (List.mem_cons_of_mem _ hi)
def tYesD : Sls → Res Bool := fun _ => .ok true
def DTs (X : Cx) (F0 H0 : Hp) (W : WX) (ifs : List Expr) (t : Sls → Res Bool) : Prop := PTs X ifs (rd X.mg X.K F0 H0 W REq t)
theorem PTs.imp {X : Cx} {e : List Expr} {t t' : TT} (h : PTs X e t) (k : ∀ σ H Q, t' σ H Q → t σ H Q) : PTs X e t' := ⟨fun pins s σ H Q I q => h.run pins s σ H Q I (k σ H Q q)⟩
theorem dts_nil : DTs X F0 H0 W [] tYesD := PTs.imp pts_nil fun σ H Q ⟨ρ, F, sr, q⟩ => q true H F (.refl sr.ex) rfl
theorem dts_one {t : Sls → Res Bool} (h : DT X F0 H0 W c t) : DTs X F0 H0 W [c] t := pts_one h
/-- what a comprehension makes -/
def compL (bt : PyData → Sls → Option Sls) (t : Sls → Res Bool) (f : Sls → Res PyData) (ρ : Sls) : List PyData → Res (List PyData)
  | [] => .ok []
  | d :: ds => match bt d ρ with
    | none => .bad
    | some ρ1 => match t ρ1 with
      | .ok true => match f ρ1 with
        | .ok y => compL bt t f ρ ds >>= fun ys => .ok (y :: ys)
        | _ => .bad
      | .ok false => compL bt t f ρ ds
      | _ => .bad
theorem compL_noexc {bt : PyData → Sls → Option Sls} {t : Sls → Res Bool} {f : Sls → Res PyData} {ρ : Sls} {x : Xn} : ∀ ds, compL bt t f ρ ds ≠ .exc x
  | [] => by intro h; cases h
  | d :: ds => by
    intro h
    simp only [compL] at h
    have ih := compL_noexc (bt := bt) (t := t) (f := f) (ρ := ρ) (x := x) ds
    cases e1 : bt d ρ with
    | none => simp only [e1] at h; cases h
    | some ρ1 =>
      simp only [e1] at h
      cases e2 : t ρ1 with
      | ok b =>
        simp only [e2] at h
        cases b with
        | true =>
          simp only at h
          cases e3 : f ρ1 with
          | ok y =>
            simp only [e3] at h
            cases e4 : compL bt t f ρ ds with
            | ok ys => simp only [e4, bind_ok] at h; cases h
            | exc z => simp only [e4, bind_exc] at h; cases h; exact ih e4
            | bad => simp only [e4, bind_bad] at h; cases h
          | exc z => simp only [e3] at h; cases h
          | bad => simp only [e3] at h; cases h
        | false => exact ih h
      | exc z => simp only [e2] at h; cases h
      | bad => simp only [e2] at h; cases h
def dLc (fs : Sls → Res (List PyData)) (bt : PyData → Sls → Option Sls) (t : Sls → Res Bool) (f : Sls → Res PyData) (vs : List Nat) (ρ : Sls) : Res (List PyData) :=
  fs ρ >>= fun ds => if ds.length ≤ 16777216 then compL bt t f (wipeS ρ vs) ds else .bad
theorem lc_run {fi : Sls → Res (List PyData)} {bt : PyData → Sls → Option Sls} {t : Sls → Res Bool} {fe : Sls → Res PyData} {vs : List Nat} {σ : L2.St} {H : Hp} {Q : VK} {ws : List Nat} (hw : ∀ i ∈ ws, i ∈ vs)
    (h : nOf F0 H0 W X.mg X.K (dLc fi bt t fe vs) σ H Q) : tLc (iOf X.mg X.K F0 H0 W fi) (gOf X.K F0 H0 bt ws) (rd X.mg X.K F0 H0 WF REq t) (rd X.mg X.K F0 H0 WF (Den X.K) fe) vs σ H Q := by
  obtain ⟨ρ, F, sr, q⟩ := h
  refine ⟨ρ, F, sr, ?_⟩
  unfold dLc at q
  cases e : fi ρ with
  | exc x => simp only [e, bind_exc] at q; exact q
  | bad => simp only [e, bind_bad] at q
  | ok ds =>
    simp only [e, bind_ok] at q
    by_cases hz : ds.length ≤ 16777216
    case neg => simp only [hz, if_false] at q
    simp only [hz, if_true] at q
    intro J H1 F1 g1 ok D hD
    have hD0 : H D = none := not_of_none g1.hh hD
    have sr1 := sr.grow g1
    refine ⟨fun i m Hi => m = ds.length - i ∧ i ≤ ds.length ∧ ∃ H' F' acc accD, Gr F1 H1 F' H' ∧ H' D = none ∧ F' D = none ∧ Hi = upd H' D (.lst acc) ∧ acc.length ≤ i ∧ Dens X.K F' acc accD ∧
        (match compL bt t fe (wipeS ρ vs) (ds.drop i) with
          | .ok r => ∀ a xs H2 F2, Gr F H F2 H2 → H a = none → H2 a = some (.lst xs) → F2 a = none → Dens X.K F2 xs (accD ++ r) → Q (.ref a) H2
          | _ => False), ⟨ds.length, by simp, Nat.zero_le _, H1, F1, [], [], .refl g1.fh, hD, not_of_none g1.fh hD, rfl, Nat.le_refl _, .nil, ?_⟩, ?_⟩
    · rw [List.drop_zero]
      cases e2 : compL bt t fe (wipeS ρ vs) ds with
      | ok r => rw [e2] at q; simpa using q
      | exc x => exact absurd e2 (compL_noexc ds)
      | bad => rw [e2] at q; exact q
    · rintro i m Hi ⟨rfl, hi, H', F', acc, accD, g2, hn, hFn, rfl, hacc, dacc, q2⟩
      have grD : Gr F' H' F' (upd H' D (.lst acc)) := Gr.newO g2.fh hn
      by_cases hlt : i < ds.length
      · have hd : ds[i]? = some ds[i] := List.getElem?_eq_getElem hlt
        rw [List.drop_eq_getElem_cons hlt] at q2
        refine .inr ⟨ok.go i _ (g2.ff.trans grD.fh) hlt, fun Hi => i + 1 ≤ ds.length ∧ ∃ H' F' acc accD, Gr F1 H1 F' H' ∧ H' D = none ∧ F' D = none ∧ Hi = upd H' D (.lst acc) ∧ acc.length ≤ i + 1 ∧ Dens X.K F' acc accD ∧
          (match compL bt t fe (wipeS ρ vs) (ds.drop (i + 1)) with
            | .ok r => ∀ a xs H2 F2, Gr F H F2 H2 → H a = none → H2 a = some (.lst xs) → F2 a = none → Dens X.K F2 xs (accD ++ r) → Q (.ref a) H2
            | _ => False), fun Hi ⟨hj, rest⟩ => ⟨ds.length - (i + 1), by omega, rfl, hj, rest⟩, fun x H3 y => ?_⟩
        obtain ⟨F3, g3, dn⟩ := ok.yld i _ x H3 F' _ g2.ff grD.fh hd y
        -- the slots of the block
        have srB : SR X.K F0 H0 (wipeS ρ vs) (wipe σ vs) H3 F3 := ((sr1.wipeAll vs).grow (g2.trans grD)).grow g3
        refine ⟨wipeS ρ vs, F3, ds[i], srB, dn, ?_⟩
        simp only [compL] at q2
        cases e1 : bt ds[i] (wipeS ρ vs) with
        | none => simp only [e1] at q2
        | some ρ3 =>
          simp only [e1] at q2
          refine fun σ3 sr3 hwp => ⟨(hwp vs hw).trans (wipe_sub fun _ h => h), ρ3, F3, sr3, ?_⟩
          -- the heap without the list
          have back : ∀ {Hx Fx : Hp}, Gr F3 H3 Fx Hx → ∃ Hy, Gr F1 H1 Fx Hy ∧ Hy D = none ∧ Fx D = none ∧ Hx = upd Hy D (.lst acc) := fun {Hx Fx} gx => by
            have nD : Fx D = none := gx.nf D (g3.nf D hFn (by rw [upd_same]; simp)) (by rw [g3.hh D _ upd_same]; simp)
            have eD : Hx D = some (.lst acc) := gx.hh D _ (g3.hh D _ upd_same)
            refine ⟨fun b => if b = D then none else Hx b, ⟨g2.ff.trans (g3.ff.trans gx.ff), fun b o z => ?_, fun b o z => ?_, fun b z1 z2 => ?_⟩, if_pos rfl, nD, ?_⟩
            · have hb : b ≠ D := fun w => by rw [w, hD] at z; cases z
              show (if b = D then none else Hx b) = some o
              rw [if_neg hb]
              exact gx.hh _ _ (g3.hh _ _ (grD.hh _ _ (g2.hh _ _ z)))
            · have hb : b ≠ D := fun w => by rw [w, nD] at z; cases z
              show (if b = D then none else Hx b) = some o
              rw [if_neg hb]
              exact gx.fh _ _ z
            · have y1 := g2.nf b z1 z2
              have z3 : H' b ≠ none := fun w => by
                cases w2 : H1 b with
                | none => exact z2 w2
                | some o => rw [g2.hh b o w2] at w; cases w
              have z4 : upd H' D (.lst acc) b ≠ none := fun w => by
                by_cases hb : b = D
                · rw [hb, upd_same] at w; cases w
                · rw [upd_ne hb] at w; exact z3 w
              have y2 := g3.nf b y1 z4
              exact gx.nf b y2 fun w => z4 (by
                cases w2 : upd H' D (.lst acc) b with
                | none => rfl
                | some o => rw [g3.hh b o w2] at w; cases w)
            · funext b
              show Hx b = if b = D then some (HO.lst acc) else if b = D then none else Hx b
              by_cases hb : b = D
              · rw [if_pos hb, hb]; exact eD
              · rw [if_neg hb, if_neg hb]
          cases e2 : t ρ3 with
          | exc x => simp only [e2] at q2
          | bad => simp only [e2] at q2
          | ok b =>
            simp only [e2] at q2
            intro v H4 F4 g4 r4
            obtain rfl : v = b := r4
            cases v with
            | false =>
              simp only [Bool.false_eq_true, if_false] at q2 ⊢
              obtain ⟨Hy, gy, hy, fy, rfl⟩ := back g4
              exact ⟨hlt, Hy, F4, acc, accD, gy, hy, fy, rfl, Nat.le_succ_of_le hacc, (dacc.mono g3.ff).mono g4.ff, q2⟩
            | true =>
              simp only [if_true] at q2 ⊢
              refine ⟨ρ3, F4, sr3.grow g4, ?_⟩
              cases e3 : fe ρ3 with
              | exc x => simp only [e3] at q2
              | bad => simp only [e3] at q2
              | ok z =>
                simp only [e3] at q2
                intro u H5 F5 g5 r5
                obtain ⟨Hy, gy, hy, fy, rfl⟩ := back (g4.trans g5)
                refine ⟨acc, upd_same, by rw [line24]; omega, hlt, Hy, F5, acc ++ [u], accD ++ [z], gy, hy, fy, upd_upd, by rw [List.length_append]; exact Nat.succ_le_succ hacc, (((dacc.mono g3.ff).mono g4.ff).mono g5.ff).append (.cons r5 .nil), ?_⟩
                cases e4 : compL bt t fe (wipeS ρ vs) (ds.drop (i + 1)) with
                | ok r => rw [e4] at q2; simp only [bind_ok] at q2; simpa using q2
                | exc x => rw [e4] at q2; simp only [bind_exc] at q2
                | bad => rw [e4] at q2; simp only [bind_bad] at q2
      · have e3 : i = ds.length := by omega
        subst e3
        rw [List.drop_length] at q2
        simp only [compL, List.append_nil] at q2
        refine .inl ⟨ok.stop _ _ (g2.ff.trans grD.fh) (Nat.le_refl _), ?_⟩
        exact q2 D acc _ F' (g1.trans (g2.trans grD)) hD0 upd_same hFn dacc
theorem dn_lc {elt iter : Expr} {ifs : List Expr} {scope : Scope} {own : List (Str × Nat)} {fi : Sls → Res (List PyData)} {bt : PyData → Sls → Option Sls} {t : Sls → Res Bool} {fe : Sls → Res PyData} {ws : List Nat} {k : Nat} (c : Cz X W k) (hN : X.N.Nodup) (hi : DI X F0 H0 W tg iter fi) (ok : BlkOk X.N X.env.scope scope own)
    (hw : ∀ i ∈ ws, i ∈ own.map (·.2))
    (hg : ∀ (s : Shared) (H : Hp) (C : Addr) (cl : List (Str × Addr)) (fp : List Addr), Cz (X.blk s H scope (compEnvC scope cl C X.env) fp) WF k → DG (X.blk s H scope (compEnvC scope cl C X.env) fp) F0 H0 tg bt ws)
    (ht : ∀ (s : Shared) (H : Hp) (C : Addr) (cl : List (Str × Addr)) (fp : List Addr), Cz (X.blk s H scope (compEnvC scope cl C X.env) fp) WF k → DTs (X.blk s H scope (compEnvC scope cl C X.env) fp) F0 H0 WF ifs t)
    (he : ∀ (s : Shared) (H : Hp) (C : Addr) (cl : List (Str × Addr)) (fp : List Addr), Cz (X.blk s H scope (compEnvC scope cl C X.env) fp) WF k → DE (X.blk s H scope (compEnvC scope cl C X.env) fp) F0 H0 WF elt fe) (hs : ∀ x, foldedSetIterable iter X.env x = pure x := by intro _; rfl) :
    DN X F0 H0 W (.ListComp elt [⟨tg, iter, ifs, 0⟩] scope pos) (dLc fi bt t fe (own.map (·.2))) :=
  PE.imp (pe_lc (g := gOf X.K F0 H0 bt ws) (tt := rd X.mg X.K F0 H0 WF REq t) (te := rd X.mg X.K F0 H0 WF (Den X.K) fe) c.calm hN hi ok (fun s H C cl fp => hg s H C cl fp (c.blk ..)) (fun s H C cl fp => ht s H C cl fp (c.blk ..)) (fun s H C cl fp => he s H C cl fp (c.blk ..)) hs) fun _ _ _ h => lc_run hw h
/-- y = [..] -/
theorem ds_lcN {i : Nat} {y : Str} {py spos : Pos} {elt iter : Expr} {ifs : List Expr} {scope : Scope} {own : List (Str × Nat)} {fi : Sls → Res (List PyData)} {bt : PyData → Sls → Option Sls} {t : Sls → Res Bool} {fe : Sls → Res PyData} {ws : List Nat} {k : Nat} (c : Cz X W k) (hN : X.N.Nodup) (hy : X.N[i]? = some y) (hyl : X.env.scope.names.lookup y = some .local)
    (hsw : swapsWith (.ListComp elt [⟨tg, iter, ifs, 0⟩] scope pos) (some (.Name y py)) spos.line X.env = pure true) (hi : DI X F0 H0 W tg iter fi) (ok : BlkOk X.N X.env.scope scope own)
    (hw : ∀ i ∈ ws, i ∈ own.map (·.2))
    (hg : ∀ (s : Shared) (H : Hp) (C : Addr) (cl : List (Str × Addr)) (fp : List Addr), Cz (X.blk s H scope (compEnvC scope cl C X.env) fp) WF k → DG (X.blk s H scope (compEnvC scope cl C X.env) fp) F0 H0 tg bt ws)
    (ht : ∀ (s : Shared) (H : Hp) (C : Addr) (cl : List (Str × Addr)) (fp : List Addr), Cz (X.blk s H scope (compEnvC scope cl C X.env) fp) WF k → DTs (X.blk s H scope (compEnvC scope cl C X.env) fp) F0 H0 WF ifs t)
    (he : ∀ (s : Shared) (H : Hp) (C : Addr) (cl : List (Str × Addr)) (fp : List Addr), Cz (X.blk s H scope (compEnvC scope cl C X.env) fp) WF k → DE (X.blk s H scope (compEnvC scope cl C X.env) fp) F0 H0 WF elt fe) (hs : ∀ x, foldedSetIterable iter X.env x = pure x := by intro _; rfl) :
    DS X F0 H0 W (.Assign [.Name y py] (.ListComp elt [⟨tg, iter, ifs, 0⟩] scope pos) spos) (gSetN i (dLc fi bt t fe (own.map (·.2)))) :=
  PS.imp (ps_setLc (g := gOf X.K F0 H0 bt ws) (tt := rd X.mg X.K F0 H0 WF REq t) (te := rd X.mg X.K F0 H0 WF (Den X.K) fe) c.calm hN hy hyl hsw hi ok (fun s H C cl fp => hg s H C cl fp (c.blk ..)) (fun s H C cl fp => ht s H C cl fp (c.blk ..)) (fun s H C cl fp => he s H C cl fp (c.blk ..)) hs) fun D σ H ⟨ρ, F, sr, q⟩ => lc_run hw (fin_n sr q)
/-- the same, at once data -/
def gFrz (i : Nat) (g : Sls → Out) (ρ : Sls) : Out := match g ρ with
  | .nx ρ' => .nx (frz i ρ')
  | o => o
theorem DS.post {st : Stmt} {g : Sls → Out} (i : Nat) (h : DS X F0 H0 W st g) : DS X F0 H0 W st (gFrz i g) := PS.imp h fun D σ H ⟨ρ, F, sr, q⟩ => ⟨ρ, F, sr, by
  unfold gFrz at q
  cases e : g ρ with
  | nx ρ' =>
    simp only [e] at q
    intro σ' H' F' sr' x
    obtain ⟨F2, x2, sr2⟩ := frz_sr i sr'
    exact q σ' H' F2 sr2 (x.trans x2)
  | rt d => simp only [e] at q; exact q
  | bk ρ' => simp only [e] at q; exact q
  | ct ρ' => simp only [e] at q; exact q
  | exc x ρ' => simp only [e] at q; exact q
  | bad => simp only [e] at q; exact q⟩
end
end DL

/-! DL6: calls of defs, a def's body, methods of texts. -/
namespace DL
open PySem PySem.Spec PyProof.Rows L2

/-- a def's promise by a function of data -/
def spD (mg : Str → Option Value) (K : PySem.W.Frag) (n : Nat) (Fn : List PyData → Res PyData) : Sp := fun vs H Q E => ∃ ds Fz, vs.length = n ∧ Ex Fz H ∧ Dens K Fz vs ds ∧ match Fn ds with
  | .ok d => ∀ v H' F', Gr Fz H F' H' → Den K F' v d → Q v H'
  | .exc x => ∀ cls dd H' F', Gr Fz H F' H' → ExR mg x cls dd H' → E cls dd H'
  | .bad => False
/-- the def at f keeps to Fn, within k levels -/
abbrev FnD (P : Program) (w : World) (K : PySem.W.Frag) (mg : Str → Option Value) (base : Heap) (k : Nat) (f : Addr) (fd : FuncData) (ps : List Str) (Fn : List PyData → Res PyData) : Prop :=
  FnOk P w K mg base (L2.CX P w) k f fd ps (spD mg K ps.length Fn)
section
variable {X : Cx} {F0 H0 : Hp} {W : WX} {pos p : Pos} {e : Expr} {es : List Expr} {fs : Sls → Res (List PyData)} {k j : Nat} {f : Addr} {fd : FuncData} {ps : List Str} {Fn : List PyData → Res PyData} {x : Str}
def dCall (Fn : List PyData → Res PyData) (fs : Sls → Res (List PyData)) (ρ : Sls) : Res PyData := fs ρ >>= Fn
theorem call_run {σ : L2.St} {H : Hp} {Q : VK} {n : Nat} (hn : ∀ ρ ds, fs ρ = .ok ds → ds.length = n) (h : rd X.mg X.K F0 H0 W (Den X.K) (dCall Fn fs) σ H Q) :
    tCallS (spD X.mg X.K n Fn) (WE W) (rd X.mg X.K F0 H0 W (Dens X.K) fs) σ H Q := by
  obtain ⟨ρ, F, sr, q⟩ := h
  refine ⟨ρ, F, sr, ?_⟩
  unfold dCall at q
  cases e : fs ρ with
  | ok ds =>
    simp only [e, bind_ok] at q
    intro v H1 F1 g1 r1
    refine ⟨ds, F1, by rw [r1.length]; exact hn ρ ds e, g1.fh, r1, ?_⟩
    cases e2 : Fn ds with
    | ok d => rw [e2] at q; exact fun v H' F' g r => q v H' F' (g1.trans g) r
    | exc x => rw [e2] at q; exact fun cls dd H' F' g r => q cls dd H' F' (g1.trans g) r
    | bad => rw [e2] at q; exact q
  | exc x => simp only [e, bind_exc] at q; exact q
  | bad => simp only [e, bind_bad] at q; exact q
theorem de_call (G : FnD X.prog X.w X.K X.mg X.base j f fd ps Fn) (c : Cz X W k) (hj : j ≤ k) (hg : Gl X x) (hm : X.mg x = some (.ref f)) (hk : PySem.W.keepIn X.K (.ref f) = true) (hb : Binds X.K fd ps []) (ha : DA X F0 H0 W (e :: es) fs)
    (hn : ∀ ρ ds, fs ρ = .ok ds → ds.length = ps.length) (hdb : (x == ("__debug__" : Str)) = false := by decide) (he : starEach (e :: es) X.env = (false, eval e X.env) :: starEach es X.env := by rfl) (hpl : (backTo pos (starEach es X.env)).any (·.1) = false := by rfl) :
    DE X F0 H0 W (.Call (.Name x p) (e :: es) [] pos) (dCall Fn fs) :=
  PE.imp (pe_callS G (c.room.mono hj) hg hm hk hb (fun σ => passAt c.tk σ) ha hdb he hpl) fun _ _ _ h => call_run hn h
theorem de_call0 (G : FnD X.prog X.w X.K X.mg X.base j f fd [] Fn) (c : Cz X W k) (hj : j ≤ k) (hg : Gl X x) (hm : X.mg x = some (.ref f)) (hk : PySem.W.keepIn X.K (.ref f) = true) (hb : Binds X.K fd [] []) (hdb : (x == ("__debug__" : Str)) = false := by decide) :
    DE X F0 H0 W (.Call (.Name x p) [] [] pos) (fun _ => Fn []) := by
  refine ⟨fun pins s σ H Q I h => ?_⟩
  refine wpAny_Call_Name_kw (ld_glob I hg hm ?_ hdb)
  obtain ⟨ρ, F, sr, q⟩ := h
  refine PySem.W.callWith_K0 I.kIn hk (run_fnS (us := []) (vs := []) (E := WE W) G (c.room.mono hj) hb (passAt c.tk σ) I .nil ?_)
  refine ⟨[], F, rfl, sr.ex, .nil, ?_⟩
  cases e2 : Fn [] with
  | ok d => simp only [e2] at q; exact q
  | exc x => simp only [e2] at q; exact q
  | bad => simp only [e2] at q; exact q
/-- the number of arguments -/
theorem dCons_len {f : Sls → Res PyData} {fs : Sls → Res (List PyData)} {n : Nat} (h : ∀ ρ ds, fs ρ = .ok ds → ds.length = n) : ∀ ρ ds, dCons f fs ρ = .ok ds → ds.length = n + 1 := fun ρ ds e => by
  unfold dCons at e
  cases e1 : f ρ with
  | ok d =>
    simp only [e1, bind_ok] at e
    cases e2 : fs ρ with
    | ok es =>
      simp only [e2, bind_ok] at e
      cases e
      rw [List.length_cons, h ρ es e2]
    | exc x => simp only [e2, bind_exc] at e; cases e
    | bad => simp only [e2, bind_bad] at e; cases e
  | exc x => simp only [e1, bind_exc] at e; cases e
  | bad => simp only [e1, bind_bad] at e; cases e
theorem nil_len : ∀ (ρ : Sls) (ds : List PyData), (fun _ => .ok [] : Sls → Res (List PyData)) ρ = .ok ds → ds.length = 0 := fun ρ ds e => by cases e; rfl
end
/-! ### a def's body -/
def st0 (N : List Str) (ds : List PyData) : Sls := ds.map Sl.val ++ List.replicate (N.length - ds.length) Sl.un
def outR : Out → Res PyData
  | .rt d => .ok d
  | .nx _ => .ok .none
  | .exc x _ => .exc x
  | _ => .bad
theorem dens_sl {K : PySem.W.Frag} {F : Hp} : ∀ {vs : List V} {ds : List PyData}, Dens K F vs ds → ∀ (i : Nat) (n : Nat) (m : Nat) (s : Sl), (ds.map Sl.val ++ List.replicate n Sl.un)[i]? = some s → ∀ H, SlOk K H F (vs.map some ++ List.replicate m none)[i]? s
  | _, _, .nil, i, n, m, s, e, H => by
    rw [List.map_nil, List.nil_append, List.getElem?_replicate] at e
    split at e
    · cases e; exact True.intro
    · cases e
  | _, _, .cons h q, 0, n, m, s, e, H => by
    cases e
    exact ⟨_, rfl, h⟩
  | _, _, .cons h q, i + 1, n, m, s, e, H => dens_sl q i n m s e H
theorem st0_sr {K : PySem.W.Frag} {H Fz : Hp} {vs : List V} {ds : List PyData} (N : List Str) (hl : ds.length ≤ N.length) (e : Ex Fz H) (d : Dens K Fz vs ds) : SR K Fz H (st0 N ds) (L2.start N vs) H Fz := by
  have noOwn : ∀ i a, ¬ OwnAt (st0 N ds) (L2.start N vs) i a := fun i a ⟨⟨xs, e1⟩, _⟩ => by
    unfold st0 at e1
    by_cases hi : i < ds.length
    · rw [List.getElem?_append_left (by simpa using hi), List.getElem?_map, List.getElem?_eq_getElem hi] at e1
      cases e1
    · rw [List.getElem?_append_right (by simpa using hi), List.getElem?_replicate] at e1
      split at e1 <;> cases e1
  refine ⟨.refl e, ?_, fun i s h => ?_, fun i a o => absurd o (noOwn i a), fun i j a o _ => absurd o (noOwn i a)⟩
  · unfold st0 L2.start
    have := d.length
    simp only [List.length_append, List.length_map, List.length_replicate]
    omega
  · unfold st0 at h
    unfold L2.start
    exact dens_sl d i _ _ s h H
section
variable {P : Program} {w : World} {K : PySem.W.Frag} {mg : Str → Option Value} {base : Heap} {x qual : Str} {st : Stmt} {f : Addr} {fd : FuncData} {N ps : List Str} {k : Nat} {Fn : List PyData → Res PyData} {g : Sls → Out}
/-- THE RULE for a def: its body by a function of the slots, which is Fn -/
theorem fn_D (Fu : Fun K x qual st f fd) (S : FnScope N ps (defScope st)) (hN : ps.length ≤ N.length)
    (hb : ∀ (cdv : Value) (A : Around) (outer : List PySem.Env) (s : Shared) (H : Hp) (E : XK) (Fz : Hp),
      Cz (cxOf (L2.CX P w) P w K mg base N qual (defScope st) f cdv A outer s H E) (fun cls dd _ H' => E cls dd H') k → DSs (cxOf (L2.CX P w) P w K mg base N qual (defScope st) f cdv A outer s H E) Fz H (fun cls dd _ H' => E cls dd H') (defBody st) g)
    (hF : ∀ ds, ds.length = ps.length → Fn ds = .bad ∨ outR (g (st0 N ds)) = Fn ds) : FnD P w K mg base (k + 1) f fd ps Fn := by
  refine Fu.okX S (fun vs H Q E h => ?_) (fun cdv A outer s H vs Q E hr h => ?_)
  · obtain ⟨ds, Fz, hl, _⟩ := h
    exact hl
  · obtain ⟨ds, Fz, hl, ex, dn, q⟩ := h
    have hlen : ds.length = ps.length := by rw [← dn.length]; exact hl
    refine ⟨_, hb cdv A outer s H E Fz ⟨rfl, takes_of rfl rfl rfl rfl, passes_of rfl, hr⟩, st0 N ds, Fz, st0_sr N (by omega) ex dn, ?_⟩
    rcases hF ds hlen with e | e
    · rw [e] at q; exact q.elim
    · rw [← e] at q
      cases e2 : g (st0 N ds) with
      | nx ρ' => simp only [e2, outR] at q; exact fun σ' H' F' sr' x => q .non H' F' sr'.gr .non
      | rt d => simp only [e2, outR] at q; exact fun v H' F' gr x r => q v H' F' gr r
      | bk ρ' => simp only [e2, outR] at q
      | ct ρ' => simp only [e2, outR] at q
      | exc y ρ' => simp only [e2, outR] at q; exact fun cls dd σ' H' F' sr' x r => q cls dd H' F' sr'.gr r
      | bad => simp only [e2, outR] at q
theorem FnD.mono {j : Nat} (G : FnD P w K mg base j f fd ps Fn) (h : j ≤ k) : FnD P w K mg base k f fd ps Fn := FnOk.mono G h
/-- another function that says no more -/
theorem FnD.imp {Fn' : List PyData → Res PyData} (G : FnD P w K mg base k f fd ps Fn) (h : ∀ ds, ds.length = ps.length → Fn' ds = .bad ∨ Fn ds = Fn' ds) : FnD P w K mg base k f fd ps Fn' := FnOk.imp G fun vs H Q E ⟨ds, Fz, hl, ex, dn, q⟩ => by
  refine ⟨ds, Fz, hl, ex, dn, ?_⟩
  rcases h ds (by rw [← dn.length]; exact hl) with e | e
  · rw [e] at q; exact q.elim
  · rw [e]; exact q
end
/-! ### methods of texts -/
section
variable {X : Cx} {F0 H0 : Hp} {W : WX} {o e : Expr} {es : List Expr} {f : Sls → Res PyData} {fs : Sls → Res (List PyData)} {name : Str} {apos cpos : Pos} {id : String}
def dM (g : PyData → List PyData → Option PyData) (f : Sls → Res PyData) (fs : Sls → Res (List PyData)) (ρ : Sls) : Res PyData := f ρ >>= fun x => match x with
  | .str z => fs ρ >>= fun xs => ofO (g (.str z) xs)
  | _ => .bad
theorem de_sm {g : PyData → List PyData → Option PyData} (slot : Slot "str" name id) (hty : typeOf (.builtin id) = pure (.type "method_descriptor")) (hm : MtR X id (rM X.K g)) (ho : DE X F0 H0 W o f) (ha : DA X F0 H0 W (e :: es) fs)
    (hbase : attributeBase o name X.env (eval o X.env) = eval o X.env := by rfl)
    (hfew : ((backTo cpos (starEach (e :: es) X.env)).all (fun x => !x.1) && (backToKw cpos (keywordEach [] X.env)).all (fun x => x.1.isSome)
      && decide ((e :: es).length + ([] : List Keyword).length + (if ([] : List Keyword).isEmpty then 0 else 1) < 30)) = true := by rfl)
    (hline : (apos.endLine == cpos.line) = true := by rfl) (hs : starEach (e :: es) X.env = (false, eval e X.env) :: starEach es X.env := by rfl) (hplain : (backTo cpos (starEach es X.env)).any (·.1) = false := by rfl) :
    DE X F0 H0 W (.Call (.Attribute o name apos) (e :: es) [] cpos) (dM g f fs) := by
  refine PE.imp (pe_bm PySem.F.plainAttrs_str slot hty hm ho ha hbase hfew hline hs hplain) fun σ H Q ⟨ρ, F, sr, q⟩ => ?_
  obtain ⟨ρ1, F1, sr1, q1⟩ := rd_step (R := Den X.K) sr q
  refine ⟨ρ1, F1, sr1, q1.imp fun v H1 F2 a g1 r1 k => ?_⟩
  obtain ⟨a', F3, g3, r3, sr3, q3⟩ := k v H1 F2 (.refl g1.fh) r1
  cases r3 with
  | str z =>
    refine ⟨rfl, ?_⟩
    obtain ⟨ρ4, F4, sr4, q4⟩ := rd_step (R := Dens X.K) sr3 q3
    refine ⟨ρ4, F4, sr4, q4.imp fun u H5 F5 b g5 r5 k5 => ?_⟩
    obtain ⟨b', F6, g6, r6, sr6, q6⟩ := k5 u H5 F5 (.refl g5.fh) r5
    exact ⟨.str z, b', F6, sr6.ex, .str z, r6, q6.rop⟩
  | _ => exact q3.elim
theorem de_sm0 {g : PyData → List PyData → Option PyData} (slot : Slot "str" name id) (hty : typeOf (.builtin id) = pure (.type "method_descriptor")) (hm : MtR X id (rM X.K g)) (ho : DE X F0 H0 W o f)
    (hbase : attributeBase o name X.env (eval o X.env) = eval o X.env := by rfl) (hline : (apos.endLine == cpos.line) = true := by rfl) :
    DE X F0 H0 W (.Call (.Attribute o name apos) [] [] cpos) (dM g f (fun _ => .ok [])) := by
  refine PE.imp (pe_bm0 PySem.F.plainAttrs_str slot hty hm ho hbase hline) fun σ H Q ⟨ρ, F, sr, q⟩ => ?_
  obtain ⟨ρ1, F1, sr1, q1⟩ := rd_step (R := Den X.K) sr q
  refine ⟨ρ1, F1, sr1, q1.imp fun v H1 F2 a g1 r1 k => ?_⟩
  obtain ⟨a', F3, g3, r3, sr3, q3⟩ := k v H1 F2 (.refl g1.fh) r1
  cases r3 with
  | str z => exact ⟨rfl, .str z, [], F3, sr3.ex, .str z, .nil, Rest.rop q3⟩
  | _ => exact q3.elim
def strsOf : List PyData → Option (List Str)
  | [] => some []
  | .str x :: r => (strsOf r).map (x :: ·)
  | _ :: _ => none
theorem strsOf_map (ys : List Str) : strsOf (ys.map PyData.str) = some ys := by
  induction ys with
  | nil => rfl
  | cons y ys ih => rw [List.map_cons]; simp only [strsOf, ih, Option.map_some]
theorem strsOf_eq : ∀ {ds : List PyData} {ys : List Str}, strsOf ds = some ys → ds = ys.map PyData.str
  | [], ys, h => by cases h; rfl
  | d :: ds, ys, h => by
    cases d with
    | str x =>
      simp only [strsOf] at h
      cases e : strsOf ds with
      | none => rw [e] at h; cases h
      | some zs =>
        rw [e] at h
        cases h
        rw [strsOf_eq e]
        rfl
    | _ => cases h
def joinS (sep : Str) (ds : List PyData) : Option PyData := (strsOf ds).bind fun ys => if (ys.map (·.length)).sum + ys.length * sep.length ≤ 16777216 then some (.str (Txt.join sep ys)) else none
def joinD (a : PyData) (as : List PyData) : Option PyData := match a, as with
  | .str sep, [.list ds] => joinS sep ds
  | .str sep, [.tuple ds] => joinS sep ds
  | _, _ => none
theorem mt_joinD {X : Cx} : MtR X "str.join" (rM X.K joinD) := by
  intro pins s σ H x xs v us Q I rx rs h
  obtain ⟨a, as, F, ex, da, das, q⟩ := h
  cases da with
  | str sep =>
    cases das with
    | nil => exact q.elim
    | cons d1 d2 =>
      cases d2 with
      | cons _ _ => cases d1 <;> exact q.elim
      | nil =>
        cases d1 with
        | @lst p xs ds h1 h2 =>
          have q' : Rop X.K (joinS sep ds) H F Q := q
          unfold joinS at q'
          cases e : strsOf ds with
          | none => rw [e] at q'; exact q'.elim
          | some ys =>
            rw [e] at q'
            simp only [Option.bind_some] at q'
            by_cases hz : (ys.map (·.length)).sum + ys.length * sep.length ≤ 16777216
            · rw [if_pos hz] at q'
              have e2 := strsOf_eq e
              subst e2
              have e3 := h2.strs
              subst e3
              exact mt_join pins s σ H _ _ v us Q I rx rs ⟨sep, p, ys, rfl, rfl, .inl (ex.sl h1), hz, q'.val ex (.str _)⟩
            · rw [if_neg hz] at q'; exact q'.elim
        | @tup p xs ds h1 h2 =>
          have q' : Rop X.K (joinS sep ds) H F Q := q
          unfold joinS at q'
          cases e : strsOf ds with
          | none => rw [e] at q'; exact q'.elim
          | some ys =>
            rw [e] at q'
            simp only [Option.bind_some] at q'
            by_cases hz : (ys.map (·.length)).sum + ys.length * sep.length ≤ 16777216
            · rw [if_pos hz] at q'
              have e2 := strsOf_eq e
              subst e2
              have e3 := h2.strs
              subst e3
              exact mt_join pins s σ H _ _ v us Q I rx rs ⟨sep, p, ys, rfl, rfl, .inr (ex.st h1), hz, q'.val ex (.str _)⟩
            · rw [if_neg hz] at q'; exact q'.elim
        | _ => exact q.elim
  | _ => exact q.elim
def upperD (a : PyData) (as : List PyData) : Option PyData := match a, as with
  | .str x, [] => if x.length ≤ 5592405 then some (.str (Txt.upper x)) else none
  | _, _ => none
def lowerD (a : PyData) (as : List PyData) : Option PyData := match a, as with
  | .str x, [] => if x.length ≤ 5592405 then some (.str (Txt.lower x)) else none
  | _, _ => none
def startsD (a : PyData) (as : List PyData) : Option PyData := match a, as with
  | .str x, [.str y] => some (.bool (Txt.startswith x y))
  | _, _ => none
theorem mt_upperD {X : Cx} : MtR X "str.upper" (rM X.K upperD) := by
  intro pins s σ H x xs v us Q I rx rs h
  obtain ⟨a, as, F, ex, da, das, q⟩ := h
  cases da with
  | str z =>
    cases das with
    | nil =>
      have q' : Rop X.K (if z.length ≤ 5592405 then some (.str (Txt.upper z)) else none) H F Q := q
      by_cases hz : z.length ≤ 5592405
      · rw [if_pos hz] at q'
        exact mt_upper pins s σ H _ _ v us Q I rx rs ⟨z, rfl, rfl, hz, q'.val ex (.str _)⟩
      · rw [if_neg hz] at q'; exact q'.elim
    | cons _ _ => exact q.elim
  | _ => exact q.elim
theorem mt_lowerD {X : Cx} : MtR X "str.lower" (rM X.K lowerD) := by
  intro pins s σ H x xs v us Q I rx rs h
  obtain ⟨a, as, F, ex, da, das, q⟩ := h
  cases da with
  | str z =>
    cases das with
    | nil =>
      have q' : Rop X.K (if z.length ≤ 5592405 then some (.str (Txt.lower z)) else none) H F Q := q
      by_cases hz : z.length ≤ 5592405
      · rw [if_pos hz] at q'
        exact mt_lower pins s σ H _ _ v us Q I rx rs ⟨z, rfl, rfl, hz, q'.val ex (.str _)⟩
      · rw [if_neg hz] at q'; exact q'.elim
    | cons _ _ => exact q.elim
  | _ => exact q.elim
theorem mt_startsD {X : Cx} : MtR X "str.startswith" (rM X.K startsD) := by
  intro pins s σ H x xs v us Q I rx rs h
  obtain ⟨a, as, F, ex, da, das, q⟩ := h
  cases da with
  | str z =>
    cases das with
    | nil => exact q.elim
    | cons d1 d2 =>
      cases d2 with
      | cons _ _ => cases d1 <;> exact q.elim
      | nil =>
        cases d1 with
        | str y => exact mt_startswith pins s σ H _ _ v us Q I rx rs ⟨z, y, rfl, rfl, q.val ex (.bl _)⟩
        | _ => exact q.elim
  | _ => exact q.elim
end
end DL

/-! DL7: names for the printed walk, module constants, the end. -/
namespace DL
open PySem PySem.Spec PyProof.Rows L2

def dNil : Sls → Res (List PyData) := fun _ => .ok []
def tupD : List PyData → Option PyData := fun ds => if ds.length ≤ 1000 then some (.tuple ds) else none
def dDisp (fs : Sls → Res (List PyData)) (ρ : Sls) : Res (List PyData) := fs ρ >>= fun ds => if ds.length ≤ 1000 then .ok ds else .bad
def dFr (fs : Sls → Res (List PyData)) (ρ : Sls) : Res PyData := fs ρ >>= fun ds => .ok (.list ds)
def notD : PyData → Option PyData := fun d => (truD d).map fun b => .bool (!b)
def dPart (f : Sls → Res PyData) (ρ : Sls) : Res (Option Int) := f ρ >>= fun d => ofO ((asI d).map some)
def isi1 (g : PyData → Bool) : PyData → Option PyData := fun d => some (.bool (g d))
def isi2 (g g' : PyData → Bool) : PyData → Option PyData := fun d => some (.bool (g d || g' d))
def gBefore (i : Nat) (g : Sls → Out) (ρ : Sls) : Out := g (frz i ρ)
def gWhile (n : Sls → Nat) (t : Sls → Res Bool) (g : Sls → Out) (ρ : Sls) : Out := whileN t g (n ρ) ρ
def dNL (fs : Sls → Res (List PyData)) (ρ : Sls) : Res (List PyData) := fs ρ >>= fun ds => match ds with
  | [.list xs] => .ok xs
  | [.tuple xs] => .ok xs
  | _ => .bad

section
variable {X : Cx} {F0 H0 : Hp} {W : WX} {pos : Pos} {x : Str}
theorem de_globI {n : Int} (hg : Gl X x) (hm : ∃ t, X.mg x = some (.int n t)) (h : (x == ("__debug__" : Str)) = false := by decide) : DE X F0 H0 W (.Name x pos) (fun _ => .ok (.int n)) := by
  obtain ⟨t, hm⟩ := hm
  exact de_glob (v := .int n) hg hm ⟨t, rfl⟩ (fun _ => .int n) h
theorem de_globS {n : Str} (hg : Gl X x) (hm : ∃ t, X.mg x = some (.str n t)) (h : (x == ("__debug__" : Str)) = false := by decide) : DE X F0 H0 W (.Name x pos) (fun _ => .ok (.str n)) := by
  obtain ⟨t, hm⟩ := hm
  exact de_glob (v := .str n) hg hm ⟨t, rfl⟩ (fun _ => .str n) h
theorem de_globR {d : PyData} (hg : Gl X x) (hm : ∃ a, X.mg x = some (.ref a) ∧ ∀ F, Den X.K F (.ref a) d) (h : (x == ("__debug__" : Str)) = false := by decide) : DE X F0 H0 W (.Name x pos) (fun _ => .ok d) := by
  obtain ⟨a, hm, hd⟩ := hm
  exact de_glob (v := .ref a) hg hm rfl hd h
/-- {} -/
theorem de_dict0 : DE X F0 H0 W (.Dict [] [] pos) (fun _ => .ok (.dict [])) :=
  PE.imp pe_dnewK fun σ H Q ⟨ρ, F, sr, q⟩ p hp => q _ _ _ (Gr.new sr.ex hp) (.dic upd_same .nil)
/-- list(x), kept apart -/
theorem dn_list {e : Expr} {es : List Expr} {fs : Sls → Res (List PyData)} {p : Pos} (hg : Gl X x) (hm : X.mg x = none) (hv : bootBuiltins x = some (.type "list")) (ha : DA X F0 H0 W (e :: es) fs) (hn : x ≠ "__name__" := by decide) (hdb : (x == ("__debug__" : Str)) = false := by decide)
    (he : starEach (e :: es) X.env = (false, eval e X.env) :: starEach es X.env := by rfl) (hpl : (backTo pos (starEach es X.env)).any (·.1) = false := by rfl) : DN X F0 H0 W (.Call (.Name x p) (e :: es) [] pos) (dNL fs) := by
  refine PE.imp (pe_callTy call_list_of hg hm hv ha hn hdb he hpl) fun σ H Q ⟨ρ, F, sr, q⟩ => ?_
  refine ⟨ρ, F, sr, ?_⟩
  unfold dNL at q
  cases e : fs ρ with
  | exc x => simp only [e, bind_exc] at q; exact q
  | bad => simp only [e, bind_bad] at q
  | ok ds =>
    simp only [e, bind_ok] at q
    intro vs H1 F1 g1 r1
    cases r1 with
    | nil => exact q.elim
    | cons d1 d2 =>
      cases d2 with
      | cons _ _ => cases d1 <;> exact q.elim
      | nil =>
        cases d1 with
        | @lst l xs ds h1 h2 => exact ⟨l, xs, rfl, .inl (g1.fh.sl h1), fun p hp => q p xs _ F1 (g1.trans (Gr.newO g1.fh hp)) (not_of_none g1.hh hp) upd_same (not_of_none g1.fh hp) h2⟩
        | @tup l xs ds h1 h2 => exact ⟨l, xs, rfl, .inr (g1.fh.st h1), fun p hp => q p xs _ F1 (g1.trans (Gr.newO g1.fh hp)) (not_of_none g1.hh hp) upd_same (not_of_none g1.fh hp) h2⟩
        | _ => exact q.elim
end

/-! ### sums and ends of lists of ints -/
def intsOf : List PyData → Option (List Int)
  | [] => some []
  | .int i :: r => (intsOf r).map (i :: ·)
  | _ :: _ => none
theorem intsOf_map (ns : List Int) : intsOf (ns.map PyData.int) = some ns := by
  induction ns with
  | nil => rfl
  | cons n ns ih => rw [List.map_cons]; simp only [intsOf, ih, Option.map_some]
theorem intsOf_eq : ∀ {ds : List PyData} {ns : List Int}, intsOf ds = some ns → ds = ns.map PyData.int
  | [], ns, h => by cases h; rfl
  | d :: ds, ns, h => by
    cases d with
    | int x =>
      simp only [intsOf] at h
      cases e : intsOf ds with
      | none => rw [e] at h; cases h
      | some zs => rw [e] at h; cases h; rw [intsOf_eq e]; rfl
    | _ => cases h
def maxI : List Int → Option Int
  | [] => none
  | n :: ns => some (ns.foldl max n)
def minI : List Int → Option Int
  | [] => none
  | n :: ns => some (ns.foldl min n)
theorem foldl_max_ge : ∀ (ns : List Int) (n : Int), n ≤ ns.foldl max n ∧ ∀ y ∈ ns, y ≤ ns.foldl max n
  | [], n => ⟨Int.le_refl _, fun y h => by cases h⟩
  | m :: ns, n => by
    obtain ⟨h1, h2⟩ := foldl_max_ge ns (max n m)
    simp only [List.foldl_cons]
    refine ⟨by omega, fun y hy => ?_⟩
    rcases List.mem_cons.mp hy with rfl | hy
    · omega
    · exact h2 y hy
theorem foldl_max_mem : ∀ (ns : List Int) (n : Int), ns.foldl max n = n ∨ ns.foldl max n ∈ ns
  | [], n => .inl rfl
  | m :: ns, n => by
    simp only [List.foldl_cons]
    rcases foldl_max_mem ns (max n m) with h | h
    · rw [h]
      rcases Int.le_total n m with z | z
      · right; rw [Int.max_eq_right z]; exact List.mem_cons_self
      · left; exact Int.max_eq_left z
    · right; exact List.mem_cons_of_mem _ h
theorem foldl_min_le : ∀ (ns : List Int) (n : Int), ns.foldl min n ≤ n ∧ ∀ y ∈ ns, ns.foldl min n ≤ y
  | [], n => ⟨Int.le_refl _, fun y h => by cases h⟩
  | m :: ns, n => by
    obtain ⟨h1, h2⟩ := foldl_min_le ns (min n m)
    simp only [List.foldl_cons]
    refine ⟨by omega, fun y hy => ?_⟩
    rcases List.mem_cons.mp hy with rfl | hy
    · omega
    · exact h2 y hy
theorem foldl_min_mem : ∀ (ns : List Int) (n : Int), ns.foldl min n = n ∨ ns.foldl min n ∈ ns
  | [], n => .inl rfl
  | m :: ns, n => by
    simp only [List.foldl_cons]
    rcases foldl_min_mem ns (min n m) with h | h
    · rw [h]
      rcases Int.le_total n m with z | z
      · left; exact Int.min_eq_left z
      · right; rw [Int.min_eq_right z]; exact List.mem_cons_self
    · right; exact List.mem_cons_of_mem _ h
theorem max_is {ns : List Int} {m k : Int} (hm : m ∈ ns) (h : ∀ y, y ∈ ns → y ≤ m) (e : maxI ns = some k) : m = k := by
  cases ns with
  | nil => cases hm
  | cons n ns =>
    cases e
    have h1 := foldl_max_ge ns n
    have h3 : ns.foldl max n ∈ n :: ns := by
      rcases foldl_max_mem ns n with z | z
      · rw [z]; exact List.mem_cons_self
      · exact List.mem_cons_of_mem _ z
    have h4 := h _ h3
    rcases List.mem_cons.mp hm with rfl | z
    · omega
    · have := h1.2 m z; omega
theorem min_is {ns : List Int} {m k : Int} (hm : m ∈ ns) (h : ∀ y, y ∈ ns → m ≤ y) (e : minI ns = some k) : m = k := by
  cases ns with
  | nil => cases hm
  | cons n ns =>
    cases e
    have h1 := foldl_min_le ns n
    have h3 : ns.foldl min n ∈ n :: ns := by
      rcases foldl_min_mem ns n with z | z
      · rw [z]; exact List.mem_cons_self
      · exact List.mem_cons_of_mem _ z
    have h4 := h _ h3
    rcases List.mem_cons.mp hm with rfl | z
    · omega
    · have := h1.2 m z; omega
def maxLD : List PyData → Option PyData
  | [.list ds] => (intsOf ds).bind fun ns => (maxI ns).map .int
  | _ => none
def minLD : List PyData → Option PyData
  | [.list ds] => (intsOf ds).bind fun ns => (minI ns).map .int
  | _ => none
def sumD : List PyData → Option PyData
  | [.list ds] => (intsOf ds).map fun ns => .int ns.sum
  | _ => none
section
variable {X : Cx}
theorem oneList {K : PySem.W.Frag} {H F : Hp} {Q : VK} {as : List PyData} {xs : List V} {g : List PyData → Option PyData} (hg : ∀ as, (∀ ds, as ≠ [.list ds]) → g as = none) (ex : Ex F H) (da : Dens K F xs as) (q : Rop K (g as) H F Q) : ∃ l ys ds, as = [.list ds] ∧ xs = [.ref l] ∧ SqL K H l ys ∧ Dens K F ys ds := by
  cases da with
  | nil => rw [hg [] (by intro ds h; cases h)] at q; exact q.elim
  | cons d1 d2 =>
    cases d2 with
    | cons _ _ => rw [hg _ (by intro ds h; cases h)] at q; exact q.elim
    | nil =>
      cases d1 with
      | @lst l ys ds h1 h2 => exact ⟨l, ys, ds, rfl, rfl, ex.sl h1, h2⟩
      | _ => rw [hg _ (by intro ds h; cases h)] at q; exact q.elim
theorem call_maxLV (hc : X.calm = true) : CallR X (.builtin "max") (rL X.K maxLD) := by
  intro pins s σ H xs us Q I r h
  obtain ⟨as, F, ex, da, q⟩ := h
  obtain ⟨l, ys, ds, rfl, rfl, hl, hd⟩ := oneList (g := maxLD) (by intro as; unfold maxLD; split <;> intro h <;> first | rfl | exact absurd rfl (h _)) ex da q
  have q' : Rop X.K ((intsOf ds).bind fun ns => (maxI ns).map .int) H F Q := q
  cases e : intsOf ds with
  | none => rw [e] at q'; exact q'.elim
  | some ns =>
    rw [e, Option.bind_some] at q'
    have e2 := intsOf_eq e
    subst e2
    have e3 := hd.ints
    subst e3
    cases e4 : maxI ns with
    | none => rw [e4] at q'; exact q'.elim
    | some k =>
      rw [e4] at q'
      refine cr_max hc pins s σ H _ us Q I r ⟨l, ns, rfl, hl, ?_, fun m h1 h2 => ?_⟩
      · cases ns with
        | nil => cases e4
        | cons _ _ => exact Nat.zero_lt_succ _
      · obtain rfl := max_is h1 h2 e4
        exact q'.val ex (.int _)
theorem call_minLV (hc : X.calm = true) : CallR X (.builtin "min") (rL X.K minLD) := by
  intro pins s σ H xs us Q I r h
  obtain ⟨as, F, ex, da, q⟩ := h
  obtain ⟨l, ys, ds, rfl, rfl, hl, hd⟩ := oneList (g := minLD) (by intro as; unfold minLD; split <;> intro h <;> first | rfl | exact absurd rfl (h _)) ex da q
  have q' : Rop X.K ((intsOf ds).bind fun ns => (minI ns).map .int) H F Q := q
  cases e : intsOf ds with
  | none => rw [e] at q'; exact q'.elim
  | some ns =>
    rw [e, Option.bind_some] at q'
    have e2 := intsOf_eq e
    subst e2
    have e3 := hd.ints
    subst e3
    cases e4 : minI ns with
    | none => rw [e4] at q'; exact q'.elim
    | some k =>
      rw [e4] at q'
      refine cr_min hc pins s σ H _ us Q I r ⟨l, ns, rfl, hl, ?_, fun m h1 h2 => ?_⟩
      · cases ns with
        | nil => cases e4
        | cons _ _ => exact Nat.zero_lt_succ _
      · obtain rfl := min_is h1 h2 e4
        exact q'.val ex (.int _)
theorem call_sumV (hc : X.calm = true) : CallR X (.builtin "sum") (rL X.K sumD) := by
  intro pins s σ H xs us Q I r h
  obtain ⟨as, F, ex, da, q⟩ := h
  obtain ⟨l, ys, ds, rfl, rfl, hl, hd⟩ := oneList (g := sumD) (by intro as; unfold sumD; split <;> intro h <;> first | rfl | exact absurd rfl (h _)) ex da q
  have q' : Rop X.K ((intsOf ds).map fun ns => .int ns.sum) H F Q := q
  cases e : intsOf ds with
  | none => rw [e] at q'; exact q'.elim
  | some ns =>
    rw [e] at q'
    have e2 := intsOf_eq e
    subst e2
    have e3 := hd.ints
    subst e3
    exact cr_sum hc pins s σ H _ us Q I r ⟨l, ns, rfl, hl, q'.val ex (.int _)⟩
end

/-! ### module constants -/
mutual
/-- u, in the written part, stands for d -/
def denB (K : PySem.W.Frag) : PyData → Value → Bool
  | .none, u => u == .none
  | .bool b, u => match u with | .bool c => b == c | _ => false
  | .int i, u => match u with | .int j _ => decide (i = j) | _ => false
  | .str x, u => match u with | .str y _ => decide (x = y) | _ => false
  | .list ds, u => match u with
    | .ref a => match K.lookup a with
      | some ⟨.type "list", none, .seq its _, _⟩ => its.toList.length ≤ 1000 && densB K ds its.toList
      | _ => false
    | _ => false
  | .tuple ds, u => match u with
    | .ref a => match K.lookup a with
      | some ⟨.type "tuple", _, .seq its _, _⟩ => its.toList.length ≤ 1000 && densB K ds its.toList
      | _ => false
    | _ => false
  | .dict _, _ => false
def densB (K : PySem.W.Frag) : List PyData → List Value → Bool
  | [], us => us.isEmpty
  | d :: ds, us => match us with | u :: us => denB K d u && densB K ds us | [] => false
end
theorem z1000 {its : Array Value} (h : its.toList.length ≤ 1000) : its.size ≤ sizeLine := by
  rw [sizeLine_eq]
  rw [Array.length_toList] at h
  omega
mutual
theorem denB_of {K : PySem.W.Frag} : ∀ {d : PyData} {u : Value}, denB K d u = true → ∃ v, RelV v u ∧ ∀ F, Den K F v d
  | .none, u, h => by
    refine ⟨.non, ?_, fun _ => .non⟩
    simp only [denB] at h
    show u = .none
    cases u <;> first | rfl | exact absurd h (by decide) | (revert h; intro h; cases h)
  | .bool b, u, h => by
    cases u with
    | bool c => simp only [denB, beq_iff_eq] at h; subst h; exact ⟨.bl b, rfl, fun _ => .bl b⟩
    | _ => simp only [denB] at h; cases h
  | .int i, u, h => by
    cases u with
    | int j t => simp only [denB, decide_eq_true_eq] at h; subst h; exact ⟨.int i, ⟨t, rfl⟩, fun _ => .int i⟩
    | _ => simp only [denB] at h; cases h
  | .str x, u, h => by
    cases u with
    | str y t => simp only [denB, decide_eq_true_eq] at h; subst h; exact ⟨.str x, ⟨t, rfl⟩, fun _ => .str x⟩
    | _ => simp only [denB] at h; cases h
  | .list ds, u, h => by
    cases u with
    | ref a =>
      simp only [denB] at h
      split at h
      · rename_i its n sl e
        rw [Bool.and_eq_true, decide_eq_true_eq] at h
        obtain ⟨vs, rv, dn⟩ := densB_of h.2
        exact ⟨.ref a, rfl, fun F => .lst (.inr ⟨_, its, n, e, rfl, rfl, rfl, z1000 h.1, rv⟩) (dn F)⟩
      · cases h
    | _ => simp only [denB] at h; cases h
  | .tuple ds, u, h => by
    cases u with
    | ref a =>
      simp only [denB] at h
      split at h
      · rename_i dd its n sl e
        rw [Bool.and_eq_true, decide_eq_true_eq] at h
        obtain ⟨vs, rv, dn⟩ := densB_of h.2
        exact ⟨.ref a, rfl, fun F => .tup (.inr ⟨_, its, n, e, rfl, rfl, z1000 h.1, rv⟩) (dn F)⟩
      · cases h
    | _ => simp only [denB] at h; cases h
  | .dict _, u, h => by simp only [denB] at h; cases h
theorem densB_of {K : PySem.W.Frag} : ∀ {ds : List PyData} {us : List Value}, densB K ds us = true → ∃ vs, Vals vs us ∧ ∀ F, Dens K F vs ds
  | [], us, h => by
    cases us with
    | nil => exact ⟨[], .nil, fun _ => .nil⟩
    | cons _ _ => simp only [densB] at h; cases h
  | d :: ds, us, h => by
    cases us with
    | nil => simp only [densB] at h; cases h
    | cons u us =>
      simp only [densB, Bool.and_eq_true] at h
      obtain ⟨v, r, dv⟩ := denB_of h.1
      obtain ⟨vs, rs, dvs⟩ := densB_of h.2
      exact ⟨v :: vs, .cons r rs, fun F => .cons (dv F) (dvs F)⟩
end
theorem denB_den {K : PySem.W.Frag} {a : Addr} {d : PyData} (h : denB K d (.ref a) = true) (F : Hp) : Den K F (.ref a) d := by
  obtain ⟨v, r, q⟩ := denB_of h
  cases v with
  | ref b => have e : Value.ref a = Value.ref b := r; cases e; exact q F
  | non => exact nomatch (show Value.ref a = Value.none from r)
  | bl b => exact nomatch (show Value.ref a = Value.bool b from r)
  | ty n => exact nomatch (show Value.ref a = Value.type n from r)
  | int i => obtain ⟨t, e⟩ := r; cases e
  | str i => obtain ⟨t, e⟩ := r; cases e
  | byt i => obtain ⟨t, e⟩ := r; cases e
  | flt i => obtain ⟨t, e⟩ := r; cases e

/-! ### the end -/
def spL (K : PySem.W.Frag) : Sp := fun vs H Q _ => ∃ (a : Addr) (ns : List Int), vs = [.ref a] ∧ SqL K H a (ns.map V.int) ∧ ns.length ≤ 63 ∧ ∀ H', Q (.bl true) H'
section
variable {P : Program} {w : World} {K : PySem.W.Frag} {mg : Str → Option Value} {base : Heap} {f : Addr} {fd : FuncData} {x : Str} {k : Nat} {Fn : List PyData → Res PyData}
theorem law_end (G : FnD P w K mg base k f fd [x] Fn) (h : ∀ ns : List Int, ns.length ≤ 63 → Fn [.list (ns.map .int)] = .ok (.bool true)) : FnOk P w K mg base (L2.CX P w) k f fd [x] (spL K) :=
  FnOk.imp G fun vs H Q E ⟨a, ns, e, hs, hl, q⟩ => by
    subst e
    refine ⟨[.list (ns.map .int)], H, rfl, .refl H, .cons (.lst hs (.of_ints ns)) .nil, ?_⟩
    rw [h ns hl]
    intro v H' F' g r
    cases r
    exact q H'
theorem cx_false {outer : List PySem.Env} {H : Hp} {s : Shared} {u : Value} {s' : Shared} (h : L2.CX P w outer H s (fun _ _ _ => False) u s') : False := by
  obtain ⟨a, B, H', cls, d, _, _, _, _, _, _, _, e⟩ := h
  exact e
end
end DL

/-! DL8: a < b of tuples whose items need not be alike. -/
namespace DL
open PySem PySem.Spec PyProof.Rows L2

/-- the items side by side: the first pair that differs has a < that tells k; fin where none differs -/
inductive LtRun (A : Around) (s : Shared) (fin : Bool) : List (Value × Value) → Bool → Prop
  | nil : LtRun A s fin [] fin
  | same {y x : Value} {r : List (Value × Value)} {k : Bool} : SeqAt.EqAt A s y x true → LtRun A s fin r k → LtRun A s fin ((y, x) :: r) k
  | diff {y x : Value} {r : List (Value × Value)} {k : Bool} : SeqAt.EqAt A s y x false → SeqAt.RcLt A s y x k → LtRun A s fin ((y, x) :: r) k
section
open SeqAt
open AutoSeq1 (wpAny_loadPart')
open MeetsSeq MeetsSeq2 MeetsSeq3 SeqRoads2
theorem tup_run (p q : Addr) (xs ys : Array Value) (m m' : Nat) (dx dy : Option Addr) (ex ey : Array (Option Value)) (k : Bool) :
    Meets (Builtin.«tuple.__lt__» ⟨[.ref p, .ref q], []⟩)
      (fun A R s => (s.heap.get? p = some ⟨.type "tuple", dx, .seq xs m, ex⟩ ∧ s.heap.get? q = some ⟨.type "tuple", dy, .seq ys m', ey⟩) ∧
        LtRun A.in1 s (decide (xs.size < ys.size)) (xs.toList.zip ys.toList) k ∧ R (.ok (.ret (.bool k))) s) :=
  .of_wp fun prog w A R s h => by
    obtain ⟨hp, gg, dd, tt, oo⟩ := s
    obtain ⟨⟨hl, hb⟩, run, hR⟩ := h
    have sub := AutoSeq1.sub_tuple_tuple
    wp_walk using wpAny_loadPart' hl, wpAny_loadPart' hb, wpAny_forIn_list _ (fun rest b s' => b.1 = none ∧ s' = ⟨hp, gg, dd, tt, oo⟩ ∧ LtRun A.in1 ⟨hp, gg, dd, tt, oo⟩ (decide (xs.size < ys.size)) rest k ∧ R (.ok (.ret (.bool k))) ⟨hp, gg, dd, tt, oo⟩) _
    case turn =>
      rintro ⟨y, x⟩ rest b s' ⟨hb', rfl, run, hR⟩
      cases run with
      | same he hr =>
        refine wpAny_bind (he prog w _ _ ?_)
        wp_walk
        exact ⟨rfl, rfl, hr, hR⟩
      | diff he hr =>
        have hr2 := hr prog w
        refine wpAny_bind (he prog w _ _ ?_)
        generalize richCompare CmpOp.Lt y x = rc at hr2 ⊢
        wp_walk
        refine hr2 _ _ ?_
        wp_walk
        exact ⟨_, rfl, hR⟩
    case fin =>
      rintro ⟨b1, b2⟩ s' ⟨hb', rfl, run, hR⟩
      simp only at hb'
      subst hb'
      cases run
      wp_walk
      exact ⟨_, rfl, by simpa [Builtin.Tuple.tupleCompareSizes] using hR⟩
    exact ⟨rfl, rfl, run, hR⟩
theorem RcLt.run {A : Around} {s : Shared} {p q : Addr} {xs ys : Array Value} {k : Bool} (hl : s.heap.IsTuple p xs) (hb : s.heap.IsTuple q ys) (hu : A.units < cLine) (h : LtRun A.in1 s (decide (xs.size < ys.size)) (xs.toList.zip ys.toList) k) : SeqAt.RcLt A s (.ref p) (.ref q) k := fun prog w E Q hq => by
  obtain ⟨⟨cx, dx, bx, ex⟩, ho, hc, m, hd⟩ := id hl
  obtain ⟨⟨cy, dy, by_, ey⟩, ho2, hc2, m2, hd2⟩ := id hb
  simp only at hc hd hc2 hd2
  subst hc hd hc2 hd2
  exact richCompare_meets_room (op := .Lt) ⟨_, ho, rfl⟩ ⟨_, ho2, rfl⟩ F.slot_tuple_lt F.entry_tuple_lt (F.args_tuple_lt_2 _ _) (tup_run p q xs ys m m2 dx dy ex ey k)
    ⟨⟨ho, ho2⟩, h, show Value.bool k ≠ Value.notImplemented ∧ Q (.bool k) s from ⟨(fun x => nomatch x), hq⟩⟩ hu
end
mutual
/-- a < b -/
def lessD : PyData → PyData → Option Bool
  | .int i, b => match b with | .int j => some (decide (i < j)) | _ => none
  | .str x, b => match b with | .str y => some (decide (x.cps.toList < y.cps.toList)) | _ => none
  | .bool x, b => match b with | .bool y => some (decide (b2i x < b2i y)) | _ => none
  | .tuple xs, b => match b with | .tuple ys => lessL (decide (xs.length < ys.length)) xs ys | _ => none
  | _, _ => none
def lessL (fin : Bool) : List PyData → List PyData → Option Bool
  | [], _ => some fin
  | x :: xs, l => match l with
    | [] => some fin
    | y :: ys => if (x.canLay0 && y.canLay0) = true then (if PyData.eqv x y = true then lessL fin xs ys else lessD x y) else none
end
mutual
theorem less_reads : ∀ (a : PyData) (b : PyData) (k : Bool) (A : Around) (s : Shared) (u v : Value) (as bs : List Addr), Reads s.heap u a as → Reads s.heap v b bs → lessD a b = some k → A.units + a.depth < cLine → SeqAt.RcLt A s u v k
  | .int i, b, k, A, s, u, v, as, bs, ra, rb, e, hu => by
    cases b with
    | int j =>
      cases ra
      cases rb
      simp only [lessD, Option.some.injEq] at e
      subst e
      intro prog w E Q hq
      exact P.lt_int hq
    | _ => simp only [lessD] at e; cases e
  | .str i, b, k, A, s, u, v, as, bs, ra, rb, e, hu => by
    cases b with
    | str j =>
      cases ra
      cases rb
      simp only [lessD, Option.some.injEq] at e
      subst e
      intro prog w E Q hq
      exact P.lt_str hq
    | _ => simp only [lessD] at e; cases e
  | .bool i, b, k, A, s, u, v, as, bs, ra, rb, e, hu => by
    cases b with
    | bool j =>
      cases ra
      cases rb
      simp only [lessD, Option.some.injEq] at e
      subst e
      intro prog w E Q hq
      exact lt_bool hq
    | _ => simp only [lessD] at e; cases e
  | .tuple xs, b, k, A, s, u, v, as, bs, ra, rb, e, hu => by
    cases b with
    | tuple ys =>
      simp only [lessD] at e
      cases ra with
      | @tuple l o vs n _ as₁ h1 h2 h3 h4 =>
        cases rb with
        | @tuple l' o' vs' n' _ bs₁ k1 k2 k3 k4 =>
          have n1 : vs.size = xs.length := by simpa using SeqAt.ReadsAll.length _ _ _ h4
          have n2 : vs'.size = ys.length := by simpa using SeqAt.ReadsAll.length _ _ _ k4
          have hd : (PyData.tuple xs).depth = PyData.depthAll xs + 1 := by rw [PyData.depth]
          refine RcLt.run ⟨_, h1, h2, _, h3⟩ ⟨_, k1, k2, _, k3⟩ (by omega) ?_
          rw [n1, n2]
          exact less_run _ xs ys k A.in1 s vs.toList vs'.toList _ _ h4 k4 e (by show A.units + 1 + _ < cLine; omega)
    | _ => simp only [lessD] at e; cases e
  | .none, b, k, A, s, u, v, as, bs, ra, rb, e, hu => by simp only [lessD] at e; cases e
  | .list _, b, k, A, s, u, v, as, bs, ra, rb, e, hu => by simp only [lessD] at e; cases e
  | .dict _, b, k, A, s, u, v, as, bs, ra, rb, e, hu => by simp only [lessD] at e; cases e
theorem less_run (fin : Bool) : ∀ (xs ys : List PyData) (k : Bool) (A : Around) (s : Shared) (us vs : List Value) (as bs : List Addr), ReadsAll s.heap us xs as → ReadsAll s.heap vs ys bs → lessL fin xs ys = some k → A.units + PyData.depthAll xs < cLine → LtRun A s fin (us.zip vs) k
  | [], ys, k, A, s, us, vs, as, bs, ra, rb, e, hu => by
    cases ra
    simp only [lessL, Option.some.injEq] at e
    subst e
    exact .nil
  | x :: xs, ys, k, A, s, us, vs, as, bs, ra, rb, e, hu => by
    cases ra with
    | cons r rs =>
      cases rb with
      | nil =>
        simp only [lessL, Option.some.injEq] at e
        subst e
        exact .nil
      | @cons v' vs' y ys as' bs' r' rs' =>
        simp only [lessL] at e
        have hx : (PyData.depthAll (x :: xs)) = max x.depth (PyData.depthAll xs) := by rw [PyData.depthAll]
        by_cases hc : (x.canLay0 && y.canLay0) = true
        · rw [if_pos hc] at e
          rw [Bool.and_eq_true] at hc
          have he := SeqAt.eqAt_reads x y A s _ _ _ _ r r' hc.1 hc.2 (by omega)
          by_cases hq : PyData.eqv x y = true
          · rw [if_pos hq] at e
            rw [hq] at he
            exact .same he (less_run fin xs ys k A s _ _ _ _ rs rs' e (by omega))
          · rw [if_neg hq] at e
            rw [Bool.not_eq_true] at hq
            rw [hq] at he
            exact .diff he (less_reads x y k A s _ _ _ _ r r' e (by omega))
        · rw [if_neg hc] at e
          cases e
end
/-- a < b: ints, texts, truth values, tuples -/
def ltV (a b : PyData) : Option PyData := if (noDic a && noDic b && decide (a.depth ≤ 64)) = true then (lessD a b).map .bool else none
theorem op_ltV {X : Cx} (hu : X.A.units + 64 < cLine) : OpR X (compareOp .Lt) (r2 X.K ltV) := by
  intro pins s σ H x y v u Q I rx ry h
  obtain ⟨a, b, F, ex, da, db, q⟩ := h
  unfold ltV at q
  by_cases hz : (noDic a && noDic b && decide (a.depth ≤ 64)) = true
  · rw [if_pos hz] at q
    simp only [Bool.and_eq_true, decide_eq_true_eq] at hz
    cases e : lessD a b with
    | none => rw [e] at q; exact q.elim
    | some k =>
      rw [e] at q
      obtain ⟨as, r1⟩ := Dp.reads I a x v ((da.mono ex).dp hz.1.1) rx
      obtain ⟨bs, r2⟩ := Dp.reads I b y u ((db.mono ex).dp hz.1.2) ry
      exact less_reads a b k _ _ _ _ _ _ r1 r2 e (by omega) _ _ _ _ ⟨.bl k, H, I, rfl, q.val ex (.bl k)⟩
  · rw [if_neg hz] at q
    exact q.elim
/-! ### a > b -/
/-- a > b gives k, the state as it was -/
def RcGt (A : Around) (s : Shared) (y x : Value) (k : Bool) : Prop := ∀ (prog : Program) (w : World) (E : Value → Shared → Prop) (Q : Value → Shared → Prop), Q (.bool k) s → wpAny (model prog w) A (richCompare .Gt y x) Q E s
theorem more_str {prog : Program} {w : World} {A : Around} {E : Value → Shared → Prop} {s : Shared} {x y : Str} {t u : Tok} {Q : Value → Shared → Prop} (h : Q (.bool (decide (y.cps.toList < x.cps.toList))) s) : wpAny (model prog w) A (compareOp .Gt (.str x t) (.str y u)) Q E s := PySem.P.gt_str h
/-- the items side by side: the first pair that differs has a > that tells k; fin where none differs -/
inductive GtRun (A : Around) (s : Shared) (fin : Bool) : List (Value × Value) → Bool → Prop
  | nil : GtRun A s fin [] fin
  | same {y x : Value} {r : List (Value × Value)} {k : Bool} : SeqAt.EqAt A s y x true → GtRun A s fin r k → GtRun A s fin ((y, x) :: r) k
  | diff {y x : Value} {r : List (Value × Value)} {k : Bool} : SeqAt.EqAt A s y x false → RcGt A s y x k → GtRun A s fin ((y, x) :: r) k
section
open SeqAt
open AutoSeq1 (wpAny_loadPart')
open MeetsSeq MeetsSeq2 MeetsSeq3 SeqRoads2
theorem tup_runG (p q : Addr) (xs ys : Array Value) (m m' : Nat) (dx dy : Option Addr) (ex ey : Array (Option Value)) (k : Bool) :
    Meets (Builtin.«tuple.__gt__» ⟨[.ref p, .ref q], []⟩)
      (fun A R s => (s.heap.get? p = some ⟨.type "tuple", dx, .seq xs m, ex⟩ ∧ s.heap.get? q = some ⟨.type "tuple", dy, .seq ys m', ey⟩) ∧
        GtRun A.in1 s (decide (xs.size > ys.size)) (xs.toList.zip ys.toList) k ∧ R (.ok (.ret (.bool k))) s) :=
  .of_wp fun prog w A R s h => by
    obtain ⟨hp, gg, dd, tt, oo⟩ := s
    obtain ⟨⟨hl, hb⟩, run, hR⟩ := h
    have sub := AutoSeq1.sub_tuple_tuple
    wp_walk using wpAny_loadPart' hl, wpAny_loadPart' hb, wpAny_forIn_list _ (fun rest b s' => b.1 = none ∧ s' = ⟨hp, gg, dd, tt, oo⟩ ∧ GtRun A.in1 ⟨hp, gg, dd, tt, oo⟩ (decide (xs.size > ys.size)) rest k ∧ R (.ok (.ret (.bool k))) ⟨hp, gg, dd, tt, oo⟩) _
    case turn =>
      rintro ⟨y, x⟩ rest b s' ⟨hb', rfl, run, hR⟩
      cases run with
      | same he hr =>
        refine wpAny_bind (he prog w _ _ ?_)
        wp_walk
        exact ⟨rfl, rfl, hr, hR⟩
      | diff he hr =>
        have hr2 := hr prog w
        refine wpAny_bind (he prog w _ _ ?_)
        generalize richCompare CmpOp.Gt y x = rc at hr2 ⊢
        wp_walk
        refine hr2 _ _ ?_
        wp_walk
        exact ⟨_, rfl, hR⟩
    case fin =>
      rintro ⟨b1, b2⟩ s' ⟨hb', rfl, run, hR⟩
      simp only at hb'
      subst hb'
      cases run
      wp_walk
      exact ⟨_, rfl, by simpa [Builtin.Tuple.tupleCompareSizes] using hR⟩
    exact ⟨rfl, rfl, run, hR⟩
theorem RcGt.run {A : Around} {s : Shared} {p q : Addr} {xs ys : Array Value} {k : Bool} (hl : s.heap.IsTuple p xs) (hb : s.heap.IsTuple q ys) (hu : A.units < cLine) (h : GtRun A.in1 s (decide (xs.size > ys.size)) (xs.toList.zip ys.toList) k) : RcGt A s (.ref p) (.ref q) k := fun prog w E Q hq => by
  obtain ⟨⟨cx, dx, bx, ex⟩, ho, hc, m, hd⟩ := id hl
  obtain ⟨⟨cy, dy, by_, ey⟩, ho2, hc2, m2, hd2⟩ := id hb
  simp only at hc hd hc2 hd2
  subst hc hd hc2 hd2
  exact richCompare_meets_room (op := .Gt) ⟨_, ho, rfl⟩ ⟨_, ho2, rfl⟩ F.slot_tuple_gt F.entry_tuple_gt (F.args_tuple_gt_2 _ _) (tup_runG p q xs ys m m2 dx dy ex ey k)
    ⟨⟨ho, ho2⟩, h, show Value.bool k ≠ Value.notImplemented ∧ Q (.bool k) s from ⟨(fun x => nomatch x), hq⟩⟩ hu
end
mutual
/-- a > b -/
def moreD : PyData → PyData → Option Bool
  | .int i, b => match b with | .int j => some (decide (j < i)) | _ => none
  | .str x, b => match b with | .str y => some (decide (y.cps.toList < x.cps.toList)) | _ => none
  | .bool x, b => match b with | .bool y => some (decide (b2i y < b2i x)) | _ => none
  | .tuple xs, b => match b with | .tuple ys => moreL (decide (xs.length > ys.length)) xs ys | _ => none
  | _, _ => none
def moreL (fin : Bool) : List PyData → List PyData → Option Bool
  | [], _ => some fin
  | x :: xs, l => match l with
    | [] => some fin
    | y :: ys => if (x.canLay0 && y.canLay0) = true then (if PyData.eqv x y = true then moreL fin xs ys else moreD x y) else none
end
mutual
theorem more_reads : ∀ (a : PyData) (b : PyData) (k : Bool) (A : Around) (s : Shared) (u v : Value) (as bs : List Addr), Reads s.heap u a as → Reads s.heap v b bs → moreD a b = some k → A.units + a.depth < cLine → RcGt A s u v k
  | .int i, b, k, A, s, u, v, as, bs, ra, rb, e, hu => by
    cases b with
    | int j =>
      cases ra
      cases rb
      simp only [moreD, Option.some.injEq] at e
      subst e
      intro prog w E Q hq
      exact P.gt_int hq
    | _ => simp only [moreD] at e; cases e
  | .str i, b, k, A, s, u, v, as, bs, ra, rb, e, hu => by
    cases b with
    | str j =>
      cases ra
      cases rb
      simp only [moreD, Option.some.injEq] at e
      subst e
      intro prog w E Q hq
      exact more_str hq
    | _ => simp only [moreD] at e; cases e
  | .bool i, b, k, A, s, u, v, as, bs, ra, rb, e, hu => by
    cases b with
    | bool j =>
      cases ra
      cases rb
      simp only [moreD, Option.some.injEq] at e
      subst e
      intro prog w E Q hq
      exact gt_bool hq
    | _ => simp only [moreD] at e; cases e
  | .tuple xs, b, k, A, s, u, v, as, bs, ra, rb, e, hu => by
    cases b with
    | tuple ys =>
      simp only [moreD] at e
      cases ra with
      | @tuple l o vs n _ as₁ h1 h2 h3 h4 =>
        cases rb with
        | @tuple l' o' vs' n' _ bs₁ k1 k2 k3 k4 =>
          have n1 : vs.size = xs.length := by simpa using SeqAt.ReadsAll.length _ _ _ h4
          have n2 : vs'.size = ys.length := by simpa using SeqAt.ReadsAll.length _ _ _ k4
          have hd : (PyData.tuple xs).depth = PyData.depthAll xs + 1 := by rw [PyData.depth]
          refine RcGt.run ⟨_, h1, h2, _, h3⟩ ⟨_, k1, k2, _, k3⟩ (by omega) ?_
          rw [n1, n2]
          exact more_run _ xs ys k A.in1 s vs.toList vs'.toList _ _ h4 k4 e (by show A.units + 1 + _ < cLine; omega)
    | _ => simp only [moreD] at e; cases e
  | .none, b, k, A, s, u, v, as, bs, ra, rb, e, hu => by simp only [moreD] at e; cases e
  | .list _, b, k, A, s, u, v, as, bs, ra, rb, e, hu => by simp only [moreD] at e; cases e
  | .dict _, b, k, A, s, u, v, as, bs, ra, rb, e, hu => by simp only [moreD] at e; cases e
theorem more_run (fin : Bool) : ∀ (xs ys : List PyData) (k : Bool) (A : Around) (s : Shared) (us vs : List Value) (as bs : List Addr), ReadsAll s.heap us xs as → ReadsAll s.heap vs ys bs → moreL fin xs ys = some k → A.units + PyData.depthAll xs < cLine → GtRun A s fin (us.zip vs) k
  | [], ys, k, A, s, us, vs, as, bs, ra, rb, e, hu => by
    cases ra
    simp only [moreL, Option.some.injEq] at e
    subst e
    exact .nil
  | x :: xs, ys, k, A, s, us, vs, as, bs, ra, rb, e, hu => by
    cases ra with
    | cons r rs =>
      cases rb with
      | nil =>
        simp only [moreL, Option.some.injEq] at e
        subst e
        exact .nil
      | @cons v' vs' y ys as' bs' r' rs' =>
        simp only [moreL] at e
        have hx : (PyData.depthAll (x :: xs)) = max x.depth (PyData.depthAll xs) := by rw [PyData.depthAll]
        by_cases hc : (x.canLay0 && y.canLay0) = true
        · rw [if_pos hc] at e
          rw [Bool.and_eq_true] at hc
          have he := SeqAt.eqAt_reads x y A s _ _ _ _ r r' hc.1 hc.2 (by omega)
          by_cases hq : PyData.eqv x y = true
          · rw [if_pos hq] at e
            rw [hq] at he
            exact .same he (more_run fin xs ys k A s _ _ _ _ rs rs' e (by omega))
          · rw [if_neg hq] at e
            rw [Bool.not_eq_true] at hq
            rw [hq] at he
            exact .diff he (more_reads x y k A s _ _ _ _ r r' e (by omega))
        · rw [if_neg hc] at e
          cases e
end
/-- a > b: ints, texts, truth values, tuples -/
def gtV (a b : PyData) : Option PyData := if (noDic a && noDic b && decide (a.depth ≤ 64)) = true then (moreD a b).map .bool else none
theorem op_gtV {X : Cx} (hu : X.A.units + 64 < cLine) : OpR X (compareOp .Gt) (r2 X.K gtV) := by
  intro pins s σ H x y v u Q I rx ry h
  obtain ⟨a, b, F, ex, da, db, q⟩ := h
  unfold gtV at q
  by_cases hz : (noDic a && noDic b && decide (a.depth ≤ 64)) = true
  · rw [if_pos hz] at q
    simp only [Bool.and_eq_true, decide_eq_true_eq] at hz
    cases e : moreD a b with
    | none => rw [e] at q; exact q.elim
    | some k =>
      rw [e] at q
      obtain ⟨as, r1⟩ := Dp.reads I a x v ((da.mono ex).dp hz.1.1) rx
      obtain ⟨bs, r2⟩ := Dp.reads I b y u ((db.mono ex).dp hz.1.2) ry
      exact more_reads a b k _ _ _ _ _ _ r1 r2 e (by omega) _ _ _ _ ⟨.bl k, H, I, rfl, q.val ex (.bl k)⟩
  · rw [if_neg hz] at q
    exact q.elim
end DL

/-! DL9: what is not read (bad), tables of the module with text keys, a def out of a table. -/
namespace DL
open PySem PySem.Spec PyProof.Rows L2

/-! ### nothing is said -/
section
variable {X : Cx} {F0 H0 : Hp} {W : WX}
theorem de_bad {e : Expr} : DE X F0 H0 W e (fun _ => .bad) := ⟨fun pins s σ H Q I ⟨ρ, F, sr, q⟩ => q.elim⟩
theorem dt_bad {e : Expr} : DT X F0 H0 W e (fun _ => .bad) := ⟨fun pins s σ H Q I ⟨ρ, F, sr, q⟩ => q.elim⟩
theorem ds_bad {st : Stmt} : DS X F0 H0 W st (fun _ => .bad) := ⟨fun pins s σ H D I ⟨ρ, F, sr, q⟩ => q.elim⟩
theorem dss_bad {st : List Stmt} : DSs X F0 H0 W st (fun _ => .bad) := ⟨fun pins s σ H D I ⟨ρ, F, sr, q⟩ => q.elim⟩
end

/-! ### tables -/
/-- at a: a written dict, key by key what stands there -/
structure TabV {α : Type} (K : PySem.W.Frag) (w : World) (a : Addr) (tbl : List (Str × α)) (R : α → Value → Prop) : Prop where
  kd : ∃ es n, KDict K w a es n
  miss : ∀ z, tbl.lookup z = none → PySem.W.nsIn K a z = some none
  hit : ∀ z x, tbl.lookup z = some x → ∃ u, PySem.W.nsIn K a z = some (some u) ∧ R x u
def valsW (K : PySem.W.Frag) (a : Addr) : Option (List Value) := match K.lookup a with
  | some ⟨_, _, .dict es _, _⟩ => some (es.toList.map (·.val))
  | _ => none
inductive Match {α : Type} (R : α → Value → Prop) : List (Str × α) → List DictEntry → Prop
  | nil : Match R [] []
  | cons {k : Str} {x : α} {t : Tok} {e : DictEntry} {r : List (Str × α)} {es : List DictEntry} : e.key = .str k t → R x e.val → Match R r es → Match R ((k, x) :: r) (e :: es)
theorem str_beq (x y : Str) (t : Tok) : (Value.str y t).isStr x = (x == y) := by
  show (y == x) = (x == y)
  by_cases h : x = y
  · subst h; rfl
  · rw [beq_eq_false_iff_ne.mpr h, beq_eq_false_iff_ne.mpr fun z => h z.symm]
theorem Match.find {α : Type} {R : α → Value → Prop} (z : Str) : ∀ {tbl : List (Str × α)} {es : List DictEntry}, Match R tbl es →
    (∀ x, tbl.lookup z = some x → ∃ e, es.find? (·.key.isStr z) = some e ∧ R x e.val) ∧ (tbl.lookup z = none → es.find? (·.key.isStr z) = none) ∧ es.any (·.refKey) = false
  | _, _, .nil => ⟨(fun x h => by cases h), (fun _ => rfl), rfl⟩
  | _, _, @Match.cons _ _ k x t e r es h1 h2 h3 => by
    obtain ⟨i1, i2, i3⟩ := Match.find z h3
    have hk : e.key.isStr z = (z == k) := by rw [h1]; exact str_beq z k t
    have hr : e.refKey = false := by unfold DictEntry.refKey; rw [h1]
    refine ⟨fun y hy => ?_, fun hn => ?_, by rw [List.any_cons, hr, i3]; rfl⟩
    · rw [List.lookup_cons] at hy
      cases hz : z == k with
      | true =>
        rw [hz] at hy
        cases hy
        exact ⟨e, by rw [List.find?_cons, hk, hz], h2⟩
      | false =>
        rw [hz] at hy
        obtain ⟨e', q1, q2⟩ := i1 y hy
        exact ⟨e', by rw [List.find?_cons, hk, hz]; exact q1, q2⟩
    · rw [List.lookup_cons] at hn
      cases hz : z == k with
      | true => rw [hz] at hn; cases hn
      | false =>
        rw [hz] at hn
        rw [List.find?_cons, hk, hz]
        exact i2 hn
theorem match_of {α : Type} {R : α → Value → Prop} {P : Params} : ∀ {tbl : List (Str × α)} {es : List DictEntry}, es.map He.keyOf = He.keysIn P (tbl.map (·.1)) → Paired R (tbl.map (·.2)) (es.map (·.val)) → Match R tbl es
  | [], [], _, _ => .nil
  | [], e :: es, h, _ => by cases h
  | (k, x) :: r, [], h, _ => by cases h
  | (k, x) :: r, e :: es, h, q => by
    rw [List.map_cons, List.map_cons] at q
    cases q with
    | cons q1 q2 =>
      have h1 : He.keyOf e :: es.map He.keyOf = some (k, PyData.keyHash P k) :: He.keysIn P (r.map (·.1)) := h
      injection h1 with h2 h3
      unfold He.keyOf at h2
      split at h2
      · rename_i y t e1
        obtain ⟨h5, h6⟩ := Prod.mk.inj (Option.some.inj h2)
        exact .cons (t := t) (by rw [e1, h5]) q1 (match_of h3 q2)
      · cases h2
theorem tab_of {α : Type} {R : α → Value → Prop} {K : PySem.W.Frag} {w : World} {a : Addr} {tbl : List (Str × α)} {us : List Value} (h1 : He.dicW K a = some (He.keysIn w.params (tbl.map (·.1)))) (h2 : valsW K a = some us) (h3 : Paired R (tbl.map (·.2)) us) : TabV K w a tbl R := by
  obtain ⟨es, n, D⟩ := He.dicW_ok h1
  have hm : es.toList.map He.keyOf = He.keysIn w.params (tbl.map (·.1)) := by
    unfold He.dicW at h1
    rw [D.at_] at h1
    simp only at h1
    split at h1
    · exact Option.some.inj h1
    · cases h1
  have hv : es.toList.map (·.val) = us := by
    unfold valsW at h2
    rw [D.at_] at h2
    exact Option.some.inj h2
  have M := match_of (R := R) hm (by rw [hv]; exact h3)
  refine ⟨⟨es, n, D⟩, fun z hz => ?_, fun z x hz => ?_⟩
  · obtain ⟨_, i2, i3⟩ := M.find z
    unfold PySem.W.nsIn
    rw [D.at_]
    simp only [i2 hz, i3]
    rfl
  · obtain ⟨i1, _, _⟩ := M.find z
    obtain ⟨e, q1, q2⟩ := i1 x hz
    refine ⟨e.val, ?_, q2⟩
    unfold PySem.W.nsIn
    rw [D.at_]
    simp only [q1]
def DatR (K : PySem.W.Frag) (d : PyData) (u : Value) : Prop := ∃ v, RelV v u ∧ ∀ F, Den K F v d
abbrev TabD (K : PySem.W.Frag) (w : World) (a : Addr) (tbl : List (Str × PyData)) : Prop := TabV K w a tbl (DatR K)
theorem pairs_of {K : PySem.W.Frag} : ∀ {ds : List PyData} {us : List Value}, densB K ds us = true → Paired (DatR K) ds us
  | [], [], _ => .nil
  | [], _ :: _, h => by simp only [densB] at h; cases h
  | _ :: _, [], h => by simp only [densB] at h; cases h
  | d :: ds, u :: us, h => by
    simp only [densB, Bool.and_eq_true] at h
    exact .cons (denB_of h.1) (pairs_of h.2)
def valsB (K : PySem.W.Frag) (a : Addr) (ds : List PyData) : Bool := match valsW K a with
  | some us => densB K ds us
  | none => false
theorem tabD_of {K : PySem.W.Frag} {w : World} {a : Addr} {tbl : List (Str × PyData)} (h1 : He.dicW K a = some (He.keysIn w.params (tbl.map (·.1)))) (h2 : valsB K a (tbl.map (·.2)) = true) : TabD K w a tbl := by
  unfold valsB at h2
  cases e : valsW K a with
  | none => rw [e] at h2; cases h2
  | some us => rw [e] at h2; exact tab_of h1 e (pairs_of h2)
/-- a table of defs -/
abbrev TabF (K : PySem.W.Frag) (w : World) (a : Addr) (tbl : List (Str × Addr)) : Prop := TabV K w a tbl (fun f u => u = .ref f)
theorem refs_pair : ∀ (fs : List Addr), Paired (fun f u => u = Value.ref f) fs (fs.map .ref)
  | [] => .nil
  | f :: fs => .cons rfl (refs_pair fs)
theorem tabF_of {K : PySem.W.Frag} {w : World} {a : Addr} {tbl : List (Str × Addr)} (h1 : He.dicW K a = some (He.keysIn w.params (tbl.map (·.1)))) (h2 : valsW K a = some ((tbl.map (·.2)).map .ref)) : TabF K w a tbl := tab_of h1 h2 (refs_pair _)

section
variable {X : Cx} {F0 H0 : Hp} {W : WX} {pos p : Pos} {e : Expr} {f : Sls → Res PyData} {D : Str} {α : Type} {tbl : List (Str × α)} {R : α → Value → Prop}
/-- x in D, x not in D -/
def inT {α : Type} (tbl : List (Str × α)) : PyData → Option PyData
  | .str z => some (.bool (tbl.lookup z).isSome)
  | _ => none
def notInT {α : Type} (tbl : List (Str × α)) : PyData → Option PyData
  | .str z => some (.bool (!(tbl.lookup z).isSome))
  | _ => none
theorem in_run {g : PyData → Option PyData} {a : Addr} {σ : L2.St} {H : Hp} {Q : VK} (h : rd X.mg X.K F0 H0 W (Den X.K) (d1 g f) σ H Q) : tOp (fun x y H Q => y = .ref a ∧ ∃ d F, Ex F H ∧ Den X.K F x d ∧ Rop X.K (g d) H F Q) (rd X.mg X.K F0 H0 W (Den X.K) f) (tC (.ref a)) σ H Q := by
  obtain ⟨ρ, F, sr, q⟩ := h
  obtain ⟨ρ1, F1, sr1, q1⟩ := rd_step (R := Den X.K) sr q
  refine ⟨ρ1, F1, sr1, q1.imp fun v H1 F2 d g1 r1 k => ?_⟩
  obtain ⟨a', F3, g3, r3, sr3, q3⟩ := k v H1 F2 (.refl g1.fh) r1
  exact ⟨rfl, a', F3, sr3.ex, r3, q3.rop⟩
theorem op_inT {a : Addr} (T : TabV X.K X.w a tbl R) : OpR X (compareOp .In) (fun x y H Q => y = .ref a ∧ ∃ d F, Ex F H ∧ Den X.K F x d ∧ Rop X.K (inT tbl d) H F Q) := by
  intro pins s σ H x y v u Q I rx ry h
  obtain ⟨rfl, d, F, ex, dx, q⟩ := h
  obtain ⟨es, n, kd⟩ := T.kd
  cases dx with
  | str z =>
    have q' : Rop X.K (some (.bool (tbl.lookup z).isSome)) H F Q := q
    cases e : tbl.lookup z with
    | none => rw [e] at q'; exact op_in_kd kd pins s σ H _ _ v u Q I rx ry ⟨z, none, rfl, rfl, T.miss z e, q'.val ex (.bl _)⟩
    | some x =>
      rw [e] at q'
      obtain ⟨u0, h1, _⟩ := T.hit z x e
      exact op_in_kd kd pins s σ H _ _ v u Q I rx ry ⟨z, some u0, rfl, rfl, h1, q'.val ex (.bl _)⟩
  | _ => exact q.elim
theorem op_notInT {a : Addr} (T : TabV X.K X.w a tbl R) : OpR X (compareOp .NotIn) (fun x y H Q => y = .ref a ∧ ∃ d F, Ex F H ∧ Den X.K F x d ∧ Rop X.K (notInT tbl d) H F Q) := by
  intro pins s σ H x y v u Q I rx ry h
  obtain ⟨rfl, d, F, ex, dx, q⟩ := h
  obtain ⟨es, n, kd⟩ := T.kd
  cases dx with
  | str z =>
    have q' : Rop X.K (some (.bool (!(tbl.lookup z).isSome))) H F Q := q
    cases e : tbl.lookup z with
    | none => rw [e] at q'; exact op_notIn_kd kd pins s σ H _ _ v u Q I rx ry ⟨z, none, rfl, rfl, T.miss z e, q'.val ex (.bl _)⟩
    | some x =>
      rw [e] at q'
      obtain ⟨u0, h1, _⟩ := T.hit z x e
      exact op_notIn_kd kd pins s σ H _ _ v u Q I rx ry ⟨z, some u0, rfl, rfl, h1, q'.val ex (.bl _)⟩
  | _ => exact q.elim
theorem pe_globA {a : Addr} (hg : Gl X D) (hm : X.mg D = some (.ref a)) (h : (D == ("__debug__" : Str)) = false) : PE X (.Name D p) (tC (.ref a)) := pe_glob hg hm rfl h
theorem de_inT (hg : Gl X D) (T : ∃ a, X.mg D = some (.ref a) ∧ TabV X.K X.w a tbl R) (ha : DE X F0 H0 W e f) (h : (D == ("__debug__" : Str)) = false := by decide) (hm : behindInMarks .In (.Name D p) = false := by rfl) : DE X F0 H0 W (.Compare e [.In] [.Name D p] pos) (d1 (inT tbl) f) := by
  obtain ⟨a, m, T⟩ := T
  exact PE.imp (pe_cmpR (op_inT T) ha (pe_globA hg m h) hm) fun _ _ _ q => in_run q
theorem dt_inT (hg : Gl X D) (T : ∃ a, X.mg D = some (.ref a) ∧ TabV X.K X.w a tbl R) (ha : DE X F0 H0 W e f) (h : (D == ("__debug__" : Str)) = false := by decide) (hm : behindInMarks .In (.Name D p) = false := by rfl) : DT X F0 H0 W (.Compare e [.In] [.Name D p] pos) (dB (d1 (inT tbl) f)) := by
  obtain ⟨a, m, T⟩ := T
  refine PT.imp (pt_cmpR (op_inT T) ha (pe_globA hg m h) hm) fun σ H Q q => ?_
  exact in_run (rdB (f := d1 (inT tbl) f) q)
theorem de_notInT (hg : Gl X D) (T : ∃ a, X.mg D = some (.ref a) ∧ TabV X.K X.w a tbl R) (ha : DE X F0 H0 W e f) (h : (D == ("__debug__" : Str)) = false := by decide) (hm : behindInMarks .NotIn (.Name D p) = false := by rfl) : DE X F0 H0 W (.Compare e [.NotIn] [.Name D p] pos) (d1 (notInT tbl) f) := by
  obtain ⟨a, m, T⟩ := T
  exact PE.imp (pe_cmpR (op_notInT T) ha (pe_globA hg m h) hm) fun _ _ _ q => in_run q
theorem dt_notInT (hg : Gl X D) (T : ∃ a, X.mg D = some (.ref a) ∧ TabV X.K X.w a tbl R) (ha : DE X F0 H0 W e f) (h : (D == ("__debug__" : Str)) = false := by decide) (hm : behindInMarks .NotIn (.Name D p) = false := by rfl) : DT X F0 H0 W (.Compare e [.NotIn] [.Name D p] pos) (dB (d1 (notInT tbl) f)) := by
  obtain ⟨a, m, T⟩ := T
  refine PT.imp (pt_cmpR (op_notInT T) ha (pe_globA hg m h) hm) fun σ H Q q => ?_
  exact in_run (rdB (f := d1 (notInT tbl) f) q)
/-- D[x] -/
def ixT (tbl : List (Str × PyData)) : PyData → Option PyData
  | .str z => tbl.lookup z
  | _ => none
theorem ix_T {a : Addr} {tbl : List (Str × PyData)} (T : TabD X.K X.w a tbl) : IxR X (fun x y H Q => x = .ref a ∧ ∃ d F, Ex F H ∧ Den X.K F y d ∧ Rop X.K (ixT tbl d) H F Q) := by
  intro value slice pins s σ H x y v u Q I rx ry h hs
  obtain ⟨rfl, d, F, ex, dy, q⟩ := h
  obtain ⟨es, n, kd⟩ := T.kd
  cases dy with
  | str z =>
    have q' : Rop X.K (tbl.lookup z) H F Q := q
    cases e : tbl.lookup z with
    | none => rw [e] at q'; exact q'.elim
    | some d =>
      rw [e] at q'
      obtain ⟨u0, h1, v0, r0, hd⟩ := T.hit z d e
      exact ix_kdict value slice pins s σ H _ _ v u Q I rx ry ⟨a, z, v0, rfl, rfl, ⟨es, n, u0, kd.at_, kd.lit, h1, r0⟩, q'.val ex (hd F)⟩ hs
  | _ => exact q.elim
theorem de_ixT {tbl : List (Str × PyData)} (hg : Gl X D) (T : ∃ a, X.mg D = some (.ref a) ∧ TabD X.K X.w a tbl) (ha : DE X F0 H0 W e f) (hs : PlainIx e) (h : (D == ("__debug__" : Str)) = false := by decide) : DE X F0 H0 W (.Subscript (.Name D p) e pos) (d1 (ixT tbl) f) := by
  obtain ⟨a, m, T⟩ := T
  refine PE.imp (pe_ix (ix_T T) (pe_globA hg m h) ha hs) fun σ H Q ⟨ρ, F, sr, q⟩ => ?_
  show rd X.mg X.K F0 H0 W (Den X.K) f σ H _
  obtain ⟨ρ1, F1, sr1, q1⟩ := rd_step (R := Den X.K) sr q
  refine ⟨ρ1, F1, sr1, q1.imp fun v H1 F2 d g1 r1 k => ?_⟩
  obtain ⟨a', F3, g3, r3, sr3, q3⟩ := k v H1 F2 (.refl g1.fh) r1
  exact ⟨rfl, a', F3, sr3.ex, r3, q3.rop⟩
end
/-! ### action = D[name]; return action(..) -/
theorem SR.setU {K : PySem.W.Frag} {F0 H0 : Hp} {σ : L2.St} {H F : Hp} {ρ : Sls} (r : SR K F0 H0 ρ σ H F) (i : Nat) (o : Option V) : SR K F0 H0 (ρ.set i .un) (σ.set i o) H F := by
  have ow : ∀ j a, OwnAt (ρ.set i .un) (σ.set i o) j a → j ≠ i ∧ OwnAt ρ σ j a := fun j a ⟨⟨ds, e1⟩, e2⟩ => by
    by_cases hj : j = i
    · subst hj
      by_cases hl : j < ρ.length
      · rw [List.getElem?_set_self hl] at e1; cases e1
      · rw [List.getElem?_eq_none (by simpa using hl)] at e1; cases e1
    · rw [List.getElem?_set_ne (Ne.symm hj)] at e1 e2
      exact ⟨hj, ⟨ds, e1⟩, e2⟩
  refine ⟨r.gr, by simp [r.len], fun j s e => ?_, fun j a o => r.own0 j a (ow j a o).2, fun j k a o1 o2 => r.sep j k a (ow j a o1).2 (ow k a o2).2⟩
  by_cases hj : j = i
  · subst hj
    by_cases hl : j < ρ.length
    · rw [List.getElem?_set_self hl] at e; cases e
      exact True.intro
    · rw [List.getElem?_eq_none (by simpa using hl)] at e; cases e
  · rw [List.getElem?_set_ne (Ne.symm hj)] at e ⊢
    exact r.sl j s e
abbrev FnT := List PyData → Res PyData
/-- the defs of a table, and what each keeps to -/
inductive Acts (P : Program) (w : World) (K : PySem.W.Frag) (mg : Str → Option Value) (base : Heap) (j n : Nat) : List (Str × Addr) → List (Str × FnT) → Prop
  | nil : Acts P w K mg base j n [] []
  | cons {k : Str} {f : Addr} {fd : FuncData} {ps : List Str} {Fn : FnT} {t : List (Str × Addr)} {t' : List (Str × FnT)} : FnD P w K mg base j f fd ps Fn → PySem.W.keepIn K (.ref f) = true → Binds K fd ps [] → ps.length = n → Acts P w K mg base j n t t' → Acts P w K mg base j n ((k, f) :: t) ((k, Fn) :: t')
theorem Acts.get {P : Program} {w : World} {K : PySem.W.Frag} {mg : Str → Option Value} {base : Heap} {j n : Nat} {z : Str} {Fn : FnT} : ∀ {t : List (Str × Addr)} {t' : List (Str × FnT)}, Acts P w K mg base j n t t' → t'.lookup z = some Fn →
    ∃ f fd ps, t.lookup z = some f ∧ FnD P w K mg base j f fd ps Fn ∧ PySem.W.keepIn K (.ref f) = true ∧ Binds K fd ps [] ∧ ps.length = n
  | _, _, .nil, h => by cases h
  | _, _, @Acts.cons _ _ _ _ _ _ _ k f fd ps Fn' t t' G hk hb hl r, h => by
    rw [List.lookup_cons] at h ⊢
    cases hz : z == k with
    | true =>
      rw [hz] at h
      cases h
      exact ⟨f, fd, ps, rfl, G, hk, hb, hl⟩
    | false =>
      rw [hz] at h
      exact r.get h
section
variable {X : Cx} {F0 H0 : Hp} {W : WX} {pos p pd pc pr px : Pos} {e a : Expr} {es : List Expr} {f : Sls → Res PyData} {fs : Sls → Res (List PyData)} {D x : Str} {tbl : List (Str × Addr)} {acts : List (Str × FnT)} {i j k n : Nat} {rest : List Stmt}
theorem ix_F {a : Addr} (T : TabF X.K X.w a tbl) : IxR X (fun x y H Q => x = .ref a ∧ ∃ z f, y = .str z ∧ tbl.lookup z = some f ∧ Q (.ref f) H) := by
  intro value slice pins s σ H x y v u Q I rx ry h hs
  obtain ⟨rfl, z, f, rfl, e, q⟩ := h
  obtain ⟨es, n, kd⟩ := T.kd
  obtain ⟨u0, h1, rfl⟩ := T.hit z f e
  exact ix_kdict value slice pins s σ H _ _ v u Q I rx ry ⟨a, z, .ref f, rfl, rfl, ⟨es, n, _, kd.at_, kd.lit, h1, rfl⟩, q⟩ hs
/-- a call of what stands in slot i -/
theorem pe_act (c : Cz X W k) (hj : j ≤ k) (hN : X.N[i]? = some x) (hv : Vis X.env.scope x) {ta : TA} (ha : PA X (e :: es) ta) (hdb : (x == ("__debug__" : Str)) = false := by decide) (hcd : (x == ("__classdict__" : Str)) = false := by decide)
    (he : starEach (e :: es) X.env = (false, eval e X.env) :: starEach es X.env := by rfl) (hpl : (backTo pos (starEach es X.env)).any (·.1) = false := by rfl) :
    PE X (.Call (.Name x p) (e :: es) [] pos) (fun σ H Q => ∃ f fd ps Fn, σ[i]? = some (some (.ref f)) ∧ FnD X.prog X.w X.K X.mg X.base j f fd ps Fn ∧ PySem.W.keepIn X.K (.ref f) = true ∧ Binds X.K fd ps [] ∧ ta σ H fun vs H1 => spD X.mg X.K ps.length Fn vs H1 Q (WE W σ)) := by
  refine ⟨fun pins s σ H Q I h => ?_⟩
  obtain ⟨f, fd, ps, Fn, hs, G, hk, hb, ht⟩ := h
  refine wpAny_Call_Name_kw (thn ((pe_var (pos := p) hN hv hdb hcd).run pins s σ H (fun v H1 => v = .ref f ∧ H1 = H) I ⟨.ref f, hs, rfl, rfl⟩) fun u s1 ⟨v, H1, I1, r1, q1⟩ => ?_)
  obtain ⟨rfl, rfl⟩ := q1
  cases r1
  refine PySem.W.callWith_K (h₀ := X.base) I.ok.mod.kin hk (thn (ha.run pos pins s1 σ _ _ I1 ht) fun us s2 ⟨vs, H2, I2, r, q⟩ => ⟨I2.kIn, ?_⟩) he hpl
  exact run_fnS (E := WE W) G (c.room.mono hj) hb (passAt c.tk σ) I2 r q
def gAct (i : Nat) (acts : List (Str × FnT)) (f : Sls → Res PyData) (fs : Sls → Res (List PyData)) : Sls → Out := sE f fun d ρ => match d with
  | .str z => (match acts.lookup z with
    | some Fn => if i < ρ.length then sE (fun ρ => fs ρ >>= Fn) (fun d _ => .rt d) (ρ.set i .un) else .bad
    | none => .bad)
  | _ => .bad
theorem dss_act (c : Cz X W k) (hj : j ≤ k) (hg : Gl X D) (T : ∃ a, X.mg D = some (.ref a) ∧ TabF X.K X.w a tbl) (A : Acts X.prog X.w X.K X.mg X.base j n tbl acts) (hN : X.N.Nodup) (hi : X.N[i]? = some x) (hx : Loc X.env.scope x) (hv : Vis X.env.scope x)
    (he : DE X F0 H0 W a f) (hs : PlainIx a) (ha : DA X F0 H0 W (e :: es) fs) (hn : ∀ ρ ds, fs ρ = .ok ds → ds.length = n) (hD : (D == ("__debug__" : Str)) = false := by decide)
    (hsw : swapsWith (.Subscript (.Name D pd) a px) (some (.Name x p)) pos.line X.env = pure false := by rfl) (hf : X.fn x = true ∨ X.env.scope.names.lookup x = some .local := by first | exact .inl rfl | exact .inr rfl | assumption)
    (hdb : (x == ("__debug__" : Str)) = false := by decide) (hcd : (x == ("__classdict__" : Str)) = false := by decide)
    (hst : starEach (e :: es) X.env = (false, eval e X.env) :: starEach es X.env := by rfl) (hpl : (backTo pc (starEach es X.env)).any (·.1) = false := by rfl) {q0 : Pos} :
    DSs X F0 H0 W [.Assign [.Name x p] (.Subscript (.Name D pd) a px) pos, .Return (some (.Call (.Name x q0) (e :: es) [] pc)) pr] (gAct i acts f fs) := by
  obtain ⟨ad, m, T⟩ := T
  refine PSs.imp (pss_cons (ps_set hN hi hx (pe_ix (ix_F T) (pe_globA hg m hD) he hs) hsw hf) (pss_one (ps_ret (pe_act c hj hi hv ha hdb hcd hst hpl)))) fun Dn σ H ⟨ρ, F, sr, q⟩ => ?_
  show rd X.mg X.K F0 H0 W (Den X.K) f σ H _
  obtain ⟨ρ1, F1, sr1, q1⟩ := fin_rd (R := Den X.K) sr q
  refine ⟨ρ1, F1, sr1, q1.imp fun v H1 F2 d g1 r1 kk => ?_⟩
  obtain ⟨a', F3, g3, r3, sr3, q3⟩ := kk v H1 F2 (.refl g1.fh) r1
  cases r3 with
  | str z =>
    simp only at q3
    cases e1 : acts.lookup z with
    | none => rw [e1] at q3; exact q3.elim
    | some Fn =>
      rw [e1] at q3
      simp only at q3
      obtain ⟨f0, fd, ps, h1, G, hk, hb, hl⟩ := A.get e1
      refine ⟨rfl, z, f0, rfl, h1, ?_⟩
      by_cases hlen : i < ρ.length
      · rw [if_pos hlen] at q3
        have sr4 := sr3.setU i (some (.ref f0))
        refine ⟨f0, fd, ps, Fn, by rw [List.getElem?_set_self (by rw [← sr3.len]; exact hlen)], G, hk, hb, ?_⟩
        refine ⟨ρ.set i .un, F3, sr4, ?_⟩
        unfold sE at q3
        cases e2 : fs (ρ.set i .un) with
        | bad => simp only [e2, bind_bad] at q3; exact q3.elim
        | exc y => simp only [e2, bind_exc] at q3; exact fun cls dd H2 F2 g r => q3 cls dd _ H2 F2 (sr4.grow g) g.ff r
        | ok ds =>
          simp only [e2, bind_ok] at q3
          intro vs H2 F2 g r
          refine ⟨ds, F2, by rw [r.length, hn _ ds e2, hl], g.fh, r, ?_⟩
          cases e3 : Fn ds with
          | bad => rw [e3] at q3; exact q3.elim
          | exc y => rw [e3] at q3; exact fun cls dd H4 F4 g4 r4 => q3 cls dd _ H4 F4 (sr4.grow (g.trans g4)) (g.ff.trans g4.ff) r4
          | ok d => rw [e3] at q3; exact fun v H4 F4 g4 r4 => q3 v H4 F4 (sr4.grow (g.trans g4)).gr (g.ff.trans g4.ff) r4
      · rw [if_neg hlen] at q3
        exact q3.elim
  | _ => exact q3.elim
end
/-! ### a key of a table of defs -/
def inK (ks : List Str) : PyData → Option PyData
  | .str z => some (.bool (ks.contains z))
  | _ => none
def notInK (ks : List Str) : PyData → Option PyData
  | .str z => some (.bool (!ks.contains z))
  | _ => none
theorem lookup_keys {α : Type} (z : Str) : ∀ tbl : List (Str × α), (tbl.lookup z).isSome = (tbl.map (·.1)).contains z
  | [] => rfl
  | (k, x) :: r => by
    rw [List.lookup_cons, List.map_cons, List.contains_cons]
    cases hz : z == k with
    | true => rfl
    | false => rw [Bool.false_or]; exact lookup_keys z r
theorem inT_keys {α : Type} (tbl : List (Str × α)) : inT tbl = inK (tbl.map (·.1)) := by
  funext d
  cases d <;> first | rfl | (show some (PyData.bool _) = some (.bool _); rw [lookup_keys])
theorem notInT_keys {α : Type} (tbl : List (Str × α)) : notInT tbl = notInK (tbl.map (·.1)) := by
  funext d
  cases d <;> first | rfl | (show some (PyData.bool _) = some (.bool _); rw [lookup_keys])
section
variable {X : Cx} {F0 H0 : Hp} {W : WX} {pos p : Pos} {e : Expr} {f : Sls → Res PyData} {D : Str} {tbl : List (Str × Addr)}
theorem de_inTF {ks : List Str} (hg : Gl X D) (T : ∃ a, X.mg D = some (.ref a) ∧ TabF X.K X.w a tbl) (ha : DE X F0 H0 W e f) (h : (D == ("__debug__" : Str)) = false := by decide) (hm : behindInMarks .In (.Name D p) = false := by rfl) (hk : tbl.map (·.1) = ks := by rfl) : DE X F0 H0 W (.Compare e [.In] [.Name D p] pos) (d1 (inK ks) f) := by
  subst hk; rw [← inT_keys]; exact de_inT hg T ha h hm
theorem dt_inTF {ks : List Str} (hg : Gl X D) (T : ∃ a, X.mg D = some (.ref a) ∧ TabF X.K X.w a tbl) (ha : DE X F0 H0 W e f) (h : (D == ("__debug__" : Str)) = false := by decide) (hm : behindInMarks .In (.Name D p) = false := by rfl) (hk : tbl.map (·.1) = ks := by rfl) : DT X F0 H0 W (.Compare e [.In] [.Name D p] pos) (dB (d1 (inK ks) f)) := by
  subst hk; rw [← inT_keys]; exact dt_inT hg T ha h hm
theorem de_notInTF {ks : List Str} (hg : Gl X D) (T : ∃ a, X.mg D = some (.ref a) ∧ TabF X.K X.w a tbl) (ha : DE X F0 H0 W e f) (h : (D == ("__debug__" : Str)) = false := by decide) (hm : behindInMarks .NotIn (.Name D p) = false := by rfl) (hk : tbl.map (·.1) = ks := by rfl) : DE X F0 H0 W (.Compare e [.NotIn] [.Name D p] pos) (d1 (notInK ks) f) := by
  subst hk; rw [← notInT_keys]; exact de_notInT hg T ha h hm
theorem dt_notInTF {ks : List Str} (hg : Gl X D) (T : ∃ a, X.mg D = some (.ref a) ∧ TabF X.K X.w a tbl) (ha : DE X F0 H0 W e f) (h : (D == ("__debug__" : Str)) = false := by decide) (hm : behindInMarks .NotIn (.Name D p) = false := by rfl) (hk : tbl.map (·.1) = ks := by rfl) : DT X F0 H0 W (.Compare e [.NotIn] [.Name D p] pos) (dB (d1 (notInK ks) f)) := by
  subst hk; rw [← notInT_keys]; exact dt_notInT hg T ha h hm
end
/-! ### max and min of two texts, of two truth values -/
section
variable {prog : Program} {w : World} {A : Around} {E : Value → Shared → Prop} {s : Shared}
theorem two_kept {s : Shared} {a b : Value} {h' : Heap} {o1 : Obj} (hk : ∀ c o, c ∉ [((s.heap.push { cls := .type "tuple", data := .seq #[a, b] }).objs.size : Addr)] → ((s.heap.push { cls := .type "tuple", data := .seq #[a, b] }).push o1).get? c = some o → h'.get? c = some o) : ∀ c o, s.heap.get? c = some o → h'.get? c = some o := fun c o e => by
  refine hk c o (fun hm => ?_) (Heap.get?_push_of_some _ (Heap.get?_push_of_some _ e))
  have hlt := Heap.lt_size e
  have hz : (s.heap.push { cls := .type "tuple", data := .seq #[a, b] }).objs.size = s.heap.objs.size + 1 := Heap.size_push ..
  rw [List.mem_singleton.mp hm, hz] at hlt
  exact Nat.lt_irrefl _ (Nat.lt_of_succ_lt hlt)
theorem pick_two {a b v : Value} {bt : Nat → Nat → Bool} (h : (#[a, b] : Array Value)[argBest bt 1]? = some v) : v = if bt 1 0 = true then b else a := by
  have e : argBest bt 1 = if bt 1 0 = true then 1 else 0 := rfl
  rw [e] at h
  cases hb : bt 1 0 with
  | true => rw [hb] at h; simpa using h.symm
  | false => rw [hb] at h; simpa using h.symm
theorem max_by {a b : Value} {bt : Nat → Nat → Bool} {Q : Value → Shared → Prop} (hh : A.handled = none) (hc : CmpOf prog w A.in1 .Gt (fun i v => (#[a, b] : Array Value)[i]? = some v) bt)
    (h : ∀ h' tk, (∀ c o, s.heap.get? c = some o → h'.get? c = some o) → Q (if bt 1 0 = true then b else a) { s with heap := h', toks := tk }) : wpAny (model prog w) A (call (.builtin "max") [a, b]) Q E s := by
  have ht : (s.heap.push { cls := .type "tuple", data := .seq #[a, b] }).IsTuple s.heap.objs.size #[a, b] := ⟨_, Heap.get?_push_size _ rfl, rfl, 0, rfl⟩
  have hz : (s.heap.push { cls := .type "tuple", data := .seq #[a, b] }).objs.size = s.heap.objs.size + 1 := Heap.size_push ..
  refine call_max_two (wpAny_pyIter_tuple ht ⟨_, [_, s.heap.objs.size], [_], _, _, _, _, rfl, Walks.tuple (A := A.in1) hh _ s.heap.objs.size (by rw [hz]; exact Nat.ne_of_lt (Nat.lt_succ_self _)) #[a, b], ⟨⟨_, Heap.get?_push_size _ rfl, rfl, rfl⟩, ht.push _⟩, fun c hm => ?_, Nat.zero_lt_succ _, hc, fun v h' tk hP hk => ?_⟩)
  · show c < ((s.heap.push _).push _).objs.size
    rw [Heap.size_push, hz]
    simp only [List.mem_cons, List.not_mem_nil, or_false] at hm
    rcases hm with rfl | rfl
    · rw [hz]; exact Nat.lt_succ_self _
    · exact Nat.lt_succ_of_lt (Nat.lt_succ_self _)
  · rw [pick_two hP]
    exact h h' tk (two_kept hk)
theorem min_by {a b : Value} {bt : Nat → Nat → Bool} {Q : Value → Shared → Prop} (hh : A.handled = none) (hc : CmpOf prog w A.in1 .Lt (fun i v => (#[a, b] : Array Value)[i]? = some v) bt)
    (h : ∀ h' tk, (∀ c o, s.heap.get? c = some o → h'.get? c = some o) → Q (if bt 1 0 = true then b else a) { s with heap := h', toks := tk }) : wpAny (model prog w) A (call (.builtin "min") [a, b]) Q E s := by
  have ht : (s.heap.push { cls := .type "tuple", data := .seq #[a, b] }).IsTuple s.heap.objs.size #[a, b] := ⟨_, Heap.get?_push_size _ rfl, rfl, 0, rfl⟩
  have hz : (s.heap.push { cls := .type "tuple", data := .seq #[a, b] }).objs.size = s.heap.objs.size + 1 := Heap.size_push ..
  refine call_min_two (wpAny_pyIter_tuple ht ⟨_, [_, s.heap.objs.size], [_], _, _, _, _, rfl, Walks.tuple (A := A.in1) hh _ s.heap.objs.size (by rw [hz]; exact Nat.ne_of_lt (Nat.lt_succ_self _)) #[a, b], ⟨⟨_, Heap.get?_push_size _ rfl, rfl, rfl⟩, ht.push _⟩, fun c hm => ?_, Nat.zero_lt_succ _, hc, fun v h' tk hP hk => ?_⟩)
  · show c < ((s.heap.push _).push _).objs.size
    rw [Heap.size_push, hz]
    simp only [List.mem_cons, List.not_mem_nil, or_false] at hm
    rcases hm with rfl | rfl
    · rw [hz]; exact Nat.lt_succ_self _
    · exact Nat.lt_succ_of_lt (Nat.lt_succ_self _)
  · rw [pick_two hP]
    exact h h' tk (two_kept hk)
/-- the items, by their places -/
theorem two_items {a b v : Value} {i : Nat} (h : (#[a, b] : Array Value)[i]? = some v) : (i = 0 ∧ v = a) ∨ (i = 1 ∧ v = b) := by
  match i, h with
  | 0, h => exact .inl ⟨rfl, by simpa using h.symm⟩
  | 1, h => exact .inr ⟨rfl, by simpa using h.symm⟩
  | i + 2, h => simp at h
end
def keyS (x y : Str) : Nat → Str
  | 0 => x
  | _ => y
def keyB (x y : Bool) : Nat → Bool
  | 0 => x
  | _ => y
def max2D : List PyData → Option PyData
  | [.int i, .int j] => some (.int (if j > i then j else i))
  | [.str x, .str y] => some (.str (if x.cps.toList < y.cps.toList then y else x))
  | [.bool x, .bool y] => some (.bool (x || y))
  | _ => none
def min2D : List PyData → Option PyData
  | [.int i, .int j] => some (.int (if j < i then j else i))
  | [.str x, .str y] => some (.str (if y.cps.toList < x.cps.toList then y else x))
  | [.bool x, .bool y] => some (.bool (x && y))
  | _ => none
section
variable {X : Cx}
theorem call_max2W (hc : X.calm = true) : CallR X (.builtin "max") (rL X.K max2D) := by
  intro pins s σ H xs us Q I r h
  obtain ⟨as, F, ex, da, q⟩ := h
  cases da with
  | nil => exact q.elim
  | cons d1 d2 =>
    cases d2 with
    | nil => cases d1 <;> exact q.elim
    | cons d3 d4 =>
      cases d4 with
      | cons _ _ => cases d1 <;> cases d3 <;> exact q.elim
      | nil =>
        cases d1 with
        | int i =>
          cases d3 with
          | int j => exact call_max2 hc pins s σ H _ us Q I r ⟨i, j, rfl, q.val ex (.int _)⟩
          | _ => exact q.elim
        | str x =>
          cases d3 with
          | str y =>
            obtain ⟨u, w', rfl, ⟨t, rfl⟩, ⟨t', rfl⟩⟩ := vals2 r
            refine max_by (bt := fun i j => decide ((keyS x y j).cps.toList < (keyS x y i).cps.toList)) (I.ok.hd hc) (fun i j vi vj s Q E hi hj hQ => ?_) fun h' tk k => ⟨.str _, H, I.kept k, ?_, q.val ex (.str _)⟩
            · rcases two_items hi with ⟨rfl, rfl⟩ | ⟨rfl, rfl⟩ <;> rcases two_items hj with ⟨rfl, rfl⟩ | ⟨rfl, rfl⟩ <;> exact more_str hQ
            · show RelV _ (if decide (x.cps.toList < y.cps.toList) = true then _ else _)
              by_cases hz : x.cps.toList < y.cps.toList
              · rw [if_pos hz, if_pos (decide_eq_true hz)]; exact ⟨_, rfl⟩
              · rw [if_neg hz, if_neg (by simpa using hz)]; exact ⟨_, rfl⟩
          | _ => exact q.elim
        | bl x =>
          cases d3 with
          | bl y =>
            obtain ⟨u, w', rfl, rfl, rfl⟩ := vals2 r
            refine max_by (bt := fun i j => decide (b2i (keyB x y j) < b2i (keyB x y i))) (I.ok.hd hc) (fun i j vi vj s Q E hi hj hQ => ?_) fun h' tk k => ⟨.bl _, H, I.kept k, ?_, q.val ex (.bl _)⟩
            · rcases two_items hi with ⟨rfl, rfl⟩ | ⟨rfl, rfl⟩ <;> rcases two_items hj with ⟨rfl, rfl⟩ | ⟨rfl, rfl⟩ <;> exact gt_bool hQ
            · show RelV _ (if decide (b2i x < b2i y) = true then _ else _)
              cases x <;> cases y <;> rfl
          | _ => exact q.elim
        | _ => cases d3 <;> exact q.elim
theorem call_min2W (hc : X.calm = true) : CallR X (.builtin "min") (rL X.K min2D) := by
  intro pins s σ H xs us Q I r h
  obtain ⟨as, F, ex, da, q⟩ := h
  cases da with
  | nil => exact q.elim
  | cons d1 d2 =>
    cases d2 with
    | nil => cases d1 <;> exact q.elim
    | cons d3 d4 =>
      cases d4 with
      | cons _ _ => cases d1 <;> cases d3 <;> exact q.elim
      | nil =>
        cases d1 with
        | int i =>
          cases d3 with
          | int j => exact call_min2 hc pins s σ H _ us Q I r ⟨i, j, rfl, q.val ex (.int _)⟩
          | _ => exact q.elim
        | str x =>
          cases d3 with
          | str y =>
            obtain ⟨u, w', rfl, ⟨t, rfl⟩, ⟨t', rfl⟩⟩ := vals2 r
            refine min_by (bt := fun i j => decide ((keyS x y i).cps.toList < (keyS x y j).cps.toList)) (I.ok.hd hc) (fun i j vi vj s Q E hi hj hQ => ?_) fun h' tk k => ⟨.str _, H, I.kept k, ?_, q.val ex (.str _)⟩
            · rcases two_items hi with ⟨rfl, rfl⟩ | ⟨rfl, rfl⟩ <;> rcases two_items hj with ⟨rfl, rfl⟩ | ⟨rfl, rfl⟩ <;> exact P.lt_str hQ
            · show RelV _ (if decide (y.cps.toList < x.cps.toList) = true then _ else _)
              by_cases hz : y.cps.toList < x.cps.toList
              · rw [if_pos hz, if_pos (decide_eq_true hz)]; exact ⟨_, rfl⟩
              · rw [if_neg hz, if_neg (by simpa using hz)]; exact ⟨_, rfl⟩
          | _ => exact q.elim
        | bl x =>
          cases d3 with
          | bl y =>
            obtain ⟨u, w', rfl, rfl, rfl⟩ := vals2 r
            refine min_by (bt := fun i j => decide (b2i (keyB x y i) < b2i (keyB x y j))) (I.ok.hd hc) (fun i j vi vj s Q E hi hj hQ => ?_) fun h' tk k => ⟨.bl _, H, I.kept k, ?_, q.val ex (.bl _)⟩
            · rcases two_items hi with ⟨rfl, rfl⟩ | ⟨rfl, rfl⟩ <;> rcases two_items hj with ⟨rfl, rfl⟩ | ⟨rfl, rfl⟩ <;> exact lt_bool hQ
            · show RelV _ (if decide (b2i y < b2i x) = true then _ else _)
              cases x <;> cases y <;> rfl
          | _ => exact q.elim
        | _ => cases d3 <;> exact q.elim
end
/-! ### x.find(y) -/
def findD (a : PyData) (as : List PyData) : Option PyData := match a, as with
  | .str x, [.str y] => some (.int (Txt.find x y))
  | _, _ => none
theorem mt_findD {X : Cx} : MtR X "str.find" (rM X.K findD) := by
  intro pins s σ H x xs v us Q I rx rs h
  obtain ⟨a, as, F, ex, da, das, q⟩ := h
  cases da with
  | str z =>
    cases das with
    | nil => exact q.elim
    | cons d1 d2 =>
      cases d2 with
      | cons _ _ => cases d1 <;> exact q.elim
      | nil =>
        cases d1 with
        | str y => exact mt_find pins s σ H _ _ v us Q I rx rs ⟨z, y, rfl, rfl, q.val ex (.int _)⟩
        | _ => exact q.elim
  | _ => exact q.elim
/-! ### int(x), of a text too -/
def intXD : List PyData → Option PyData
  | [.int i] => some (.int i)
  | [.bool b] => some (.int (if b = true then 1 else 0))
  | [.str z] => if z.length ≤ 640 then (PySem.intText? z).map .int else none
  | _ => none
theorem call_intX {X : Cx} : CallR X (.type "int") (rL X.K intXD) := by
  intro pins s σ H xs us Q I r h
  obtain ⟨as, F, ex, da, q⟩ := h
  cases da with
  | nil => exact q.elim
  | cons d1 d2 =>
    cases d2 with
    | cons _ _ => cases d1 <;> exact q.elim
    | nil =>
      cases d1 with
      | int i => exact call_int1 pins s σ H _ us Q I r (.inl ⟨i, rfl, q.val ex (.int _)⟩)
      | bl b => exact call_int1 pins s σ H _ us Q I r (.inr ⟨b, rfl, q.val ex (.int _)⟩)
      | str z =>
        have q' : Rop X.K (if z.length ≤ 640 then (PySem.intText? z).map .int else none) H F Q := q
        by_cases hz : z.length ≤ 640
        · rw [if_pos hz] at q'
          cases e : PySem.intText? z with
          | none => rw [e] at q'; exact q'.elim
          | some n => rw [e] at q'; exact call_int_str pins s σ H _ us Q I r ⟨z, n, rfl, e, hz, q'.val ex (.int n)⟩
        · rw [if_neg hz] at q'
          exact q'.elim
      | _ => exact q.elim
/-! ### a sign, so many times -/
def mulVD (a b : PyData) : Option PyData := match a, b with
  | .str x, .int n => if 0 ≤ n ∧ n ≤ 1000 ∧ x.length = 1 then some (.str (Txt.mul x n)) else none
  | a, b => mulD a b
theorem mulOk_one {x : Str} {n : Int} (h0 : 0 ≤ n) (h1 : n ≤ 1000) (hx : x.length = 1) : MulOk x n := by
  refine ⟨?_, fun hn _ => ?_, fun hn _ => ?_⟩
  · have a1 : ¬ n < -(2 ^ 63 : Int) := by omega
    have a2 : ¬ n ≥ (2 ^ 63 : Int) := by omega
    rw [decide_eq_false a1, decide_eq_false a2]; rfl
  · rw [hx]
    have : (1 : Int) ≤ (2 ^ 63 - 1) / n := Int.le_ediv_of_mul_le (by omega) (by omega)
    omega
  · rw [hx]
    have : n.toNat ≤ 1000 := by omega
    show decide (1 * n.toNat > sizeLine) = false
    rw [line24]
    exact decide_eq_false (by omega)
theorem op_mulV {X : Cx} : OpR X (binaryOp .Mult) (r2 X.K mulVD) := by
  intro pins s σ H x y v u Q I rx ry h
  obtain ⟨a, b, F, ex, da, db, q⟩ := h
  cases da with
  | str z =>
    cases db with
    | int n =>
      have q' : Rop X.K (if 0 ≤ n ∧ n ≤ 1000 ∧ z.length = 1 then some (.str (Txt.mul z n)) else none) H F Q := q
      by_cases hz : 0 ≤ n ∧ n ≤ 1000 ∧ z.length = 1
      · rw [if_pos hz] at q'
        obtain ⟨t, rfl⟩ := rx
        obtain ⟨t', rfl⟩ := ry
        exact SB.mul (mulOk_one hz.1 hz.2.1 hz.2.2) fun t'' k => ⟨.str _, H, I.tok k, ⟨t'', rfl⟩, q'.val ex (.str _)⟩
      · rw [if_neg hz] at q'; exact q'.elim
    | _ => exact q.elim
  | int i => exact op_mulD pins s σ H _ _ v u Q I rx ry ⟨_, b, F, ex, .int i, db, by cases db <;> exact q⟩
  | _ => cases db <;> exact q.elim
/-! ### an own list is looked at, and stays one's own -/
def dBrw (i : Nat) (f : Sls → Res PyData) (ρ : Sls) : Res PyData := flatR (f (frz i ρ))
def tBrw (i : Nat) (t : Sls → Res Bool) (ρ : Sls) : Res Bool := boolR (t (frz i ρ))
end DL

/-! PB: how the plain functions of the walk are reckoned (simp lemmas), plain lemmas of lists, texts, numbers. -/
namespace DL
open PySem PySem.Spec PyProof.Rows L2

/-! ### statements -/
def Out.thn (o : Out) (g : Sls → Out) : Out := match o with
  | .nx ρ => g ρ
  | o => o
def Res.out {α : Type} (r : Res α) (k : α → Sls → Out) (ρ : Sls) : Out := match r with
  | .ok a => k a ρ
  | .exc x => .exc x ρ
  | .bad => .bad
section
variable {α : Type} (ρ : Sls) (g g1 g2 : Sls → Out) (d : PyData) (x : Xn) (k : α → Sls → Out) (i : Nat) (f : Sls → Res PyData) (fs : Sls → Res (List PyData)) (t : Sls → Res Bool)
@[simp] theorem thn_nx : (Out.nx ρ).thn g = g ρ := nd rfl
@[simp] theorem thn_rt : (Out.rt d).thn g = .rt d := nd rfl
@[simp] theorem thn_bk : (Out.bk ρ).thn g = .bk ρ := nd rfl
@[simp] theorem thn_ct : (Out.ct ρ).thn g = .ct ρ := nd rfl
@[simp] theorem thn_exc : (Out.exc x ρ).thn g = .exc x ρ := nd rfl
@[simp] theorem thn_bad : Out.bad.thn g = .bad := nd rfl
theorem thn_ite (c : Prop) [Decidable c] (a b : Out) : (if c then a else b).thn g = if c then a.thn g else b.thn g := by split <;> rfl
@[simp] theorem out_ok (a : α) : (Res.ok a).out k ρ = k a ρ := nd rfl
@[simp] theorem out_exc : (Res.exc x : Res α).out k ρ = .exc x ρ := nd rfl
@[simp] theorem out_bad : (Res.bad : Res α).out k ρ = .bad := nd rfl
@[simp] theorem gSeq_is : gSeq g1 g2 ρ = (g1 ρ).thn g2 := by unfold gSeq Out.thn; cases g1 ρ <;> rfl
theorem sE_is (r : Sls → Res α) : sE r k ρ = (r ρ).out k ρ := by unfold sE Res.out; cases r ρ <;> rfl
@[simp] theorem gIf_is : gIf t g1 g2 ρ = (t ρ).out (fun b ρ => if b = true then g1 ρ else g2 ρ) ρ := sE_is ..
@[simp] theorem gSet_is : gSet i f ρ = (f ρ).out (fun d ρ => .nx (ρ.set i (.val d))) ρ := sE_is ..
@[simp] theorem gSetN_is : gSetN i fs ρ = (fs ρ).out (fun ds ρ => .nx (ρ.set i (.own ds))) ρ := sE_is ..
@[simp] theorem gRet_is : gRet f ρ = (f ρ).out (fun d _ => .rt d) ρ := sE_is ..
@[simp] theorem gDrop_is : gDrop f ρ = (f ρ).out (fun _ ρ => .nx ρ) ρ := sE_is ..
@[simp] theorem gNext_is : gNext ρ = .nx ρ := nd rfl
@[simp] theorem gFor_is (bt : PyData → Sls → Option Sls) : gFor fs bt g ρ = (fs ρ).out (fun ds ρ => forL bt g ds ρ) ρ := sE_is ..
@[simp] theorem gWhile_is (n : Sls → Nat) : gWhile n t g ρ = whileN t g (n ρ) ρ := nd rfl
@[simp] theorem gBefore_is : gBefore i g ρ = g (frz i ρ) := nd rfl
@[simp] theorem gAsg_is (bt : PyData → Sls → Option Sls) : gAsg f bt ρ = (f ρ).out (fun d ρ => match bt d ρ with | some ρ' => .nx ρ' | none => .bad) ρ := sE_is ..
@[simp] theorem outR_rt : outR (.rt d) = .ok d := nd rfl
@[simp] theorem outR_nx : outR (.nx ρ) = .ok .none := nd rfl
@[simp] theorem outR_exc : outR (.exc x ρ) = .exc x := nd rfl
@[simp] theorem outR_bad : outR .bad = .bad := nd rfl
theorem out_ite (c : Prop) [Decidable c] (a b : Res α) : (if c then a else b).out k ρ = if c then a.out k ρ else b.out k ρ := by split <;> rfl

/-! ### expressions -/
@[simp] theorem dNil_is : dNil ρ = .ok [] := nd rfl
@[simp] theorem dCons_is : dCons f fs ρ = (f ρ >>= fun x => fs ρ >>= fun xs => .ok (x :: xs)) := nd rfl
@[simp] theorem d1_is (o : PyData → Option PyData) : d1 o f ρ = (f ρ >>= fun x => ofO (o x)) := nd rfl
@[simp] theorem d2_is (o : PyData → PyData → Option PyData) (f2 : Sls → Res PyData) : d2 o f f2 ρ = (f ρ >>= fun x => f2 ρ >>= fun y => ofO (o x y)) := nd rfl
@[simp] theorem dL_is (o : List PyData → Option PyData) : dL o fs ρ = (fs ρ >>= fun x => ofO (o x)) := nd rfl
@[simp] theorem dB_is : dB f ρ = (f ρ >>= fun d => ofO (asB d)) := nd rfl
@[simp] theorem dTru_is : dTru f ρ = (f ρ >>= fun d => ofO (truD d)) := nd rfl
@[simp] theorem dNot_is : dNot t ρ = (t ρ >>= fun b => .ok (!b)) := nd rfl
@[simp] theorem dAnd_is (t2 : Sls → Res Bool) : dAnd t t2 ρ = (t ρ >>= fun b => if b = true then t2 ρ else .ok false) := nd rfl
@[simp] theorem dOr_is (t2 : Sls → Res Bool) : dOr t t2 ρ = (t ρ >>= fun b => if b = true then .ok true else t2 ρ) := nd rfl
@[simp] theorem dIf_is (f2 : Sls → Res PyData) : dIf t f f2 ρ = (t ρ >>= fun b => if b = true then f ρ else f2 ρ) := nd rfl
@[simp] theorem dAndV_is (f2 : Sls → Res PyData) : dAndV f f2 ρ = (f ρ >>= fun d => ofO (truD d) >>= fun b => if b = true then f2 ρ else .ok d) := nd rfl
@[simp] theorem dOrV_is (f2 : Sls → Res PyData) : dOrV f f2 ρ = (f ρ >>= fun d => ofO (truD d) >>= fun b => if b = true then .ok d else f2 ρ) := nd rfl
@[simp] theorem dChain_is (o o' : PyData → PyData → Option PyData) (f2 f3 : Sls → Res PyData) : dChain o o' f f2 f3 ρ = (f ρ >>= fun x => f2 ρ >>= fun y => ofO ((o x y).bind asB) >>= fun k => if k = true then f3 ρ >>= fun z => ofO (o' y z) else .ok (.bool false)) := nd rfl
@[simp] theorem dSl_is (o : PyData → Option Int → Option Int → Option PyData) (l u : Sls → Res (Option Int)) : dSl o f l u ρ = (f ρ >>= fun x => l ρ >>= fun i => u ρ >>= fun j => ofO (o x i j)) := nd rfl
@[simp] theorem dPart_is : dPart f ρ = (f ρ >>= fun d => ofO ((asI d).map some)) := nd rfl
@[simp] theorem dFr_is : dFr fs ρ = (fs ρ >>= fun ds => .ok (.list ds)) := nd rfl
@[simp] theorem dDisp_is : dDisp fs ρ = (fs ρ >>= fun ds => if ds.length ≤ 1000 then .ok ds else .bad) := nd rfl
@[simp] theorem dNL_list (xs : List PyData) (h : fs ρ = .ok [.list xs]) : dNL fs ρ = .ok xs := by unfold dNL; rw [h]; rfl
@[simp] theorem dNL_tuple (xs : List PyData) (h : fs ρ = .ok [.tuple xs]) : dNL fs ρ = .ok xs := by unfold dNL; rw [h]; rfl
@[simp] theorem dCall_is (Fn : List PyData → Res PyData) : dCall Fn fs ρ = (fs ρ >>= Fn) := nd rfl
@[simp] theorem dItems_is : dItems f ρ = (f ρ >>= fun d => ofO (itemsOf d)) := nd rfl
@[simp] theorem dRng_is (o : List PyData → Option (List PyData)) : dRng o fs ρ = (fs ρ >>= fun ds => ofO (o ds)) := nd rfl
@[simp] theorem dLc_is (bt : PyData → Sls → Option Sls) (vs : List Nat) : dLc fs bt t f vs ρ = (fs ρ >>= fun ds => if ds.length ≤ 16777216 then compL bt t f (wipeS ρ vs) ds else .bad) := nd rfl
@[simp] theorem tYesD_is : tYesD ρ = .ok true := nd rfl
@[simp] theorem bName_is : bName i d ρ = some (ρ.set i (.val d)) := nd rfl
@[simp] theorem wipeS_nil : wipeS ρ [] = ρ := nd rfl
@[simp] theorem wipeS_cons (v : Nat) (vs : List Nat) : wipeS ρ (v :: vs) = (wipeS ρ vs).set v .un := nd rfl
@[simp] theorem dVar_zero : dVar 0 (.val d :: ρ) = .ok d := nd rfl
@[simp] theorem dVar_succ (s : Sl) : dVar (i + 1) (s :: ρ) = dVar i ρ := nd rfl
theorem dM_str (o : PyData → List PyData → Option PyData) (z : Str) (h : f ρ = .ok (.str z)) : dM o f fs ρ = (fs ρ >>= fun xs => ofO (o (.str z) xs)) := by unfold dM; rw [h]; rfl
end
@[simp] theorem asB_bool (b : Bool) : asB (.bool b) = some b := nd rfl
@[simp] theorem asI_int (i : Int) : asI (.int i) = some i := nd rfl
@[simp] theorem truD_bool (b : Bool) : truD (.bool b) = some b := nd rfl
@[simp] theorem truD_none : truD .none = some false := nd rfl
@[simp] theorem truD_int (i : Int) : truD (.int i) = some (i != 0) := nd rfl
@[simp] theorem truD_list (xs : List PyData) : truD (.list xs) = some (!xs.isEmpty) := nd rfl
@[simp] theorem truD_tuple (xs : List PyData) : truD (.tuple xs) = some (!xs.isEmpty) := nd rfl
@[simp] theorem truD_str (z : Str) : truD (.str z) = if z.length ≤ 16777216 then some ((z.length : Int) != 0) else none := nd rfl
@[simp] theorem notD_bool (b : Bool) : notD (.bool b) = some (.bool (!b)) := nd rfl
@[simp] theorem addD_int (i j : Int) : addD (.int i) (.int j) = some (.int (i + j)) := nd rfl
@[simp] theorem addD_str (x y : Str) : addD (.str x) (.str y) = if x.length + y.length ≤ 16777216 then some (.str (x ++ y)) else none := nd rfl
@[simp] theorem addD_list (x y : List PyData) : addD (.list x) (.list y) = if x.length + y.length ≤ 16777216 then some (.list (x ++ y)) else none := nd rfl
@[simp] theorem addD_tuple (x y : List PyData) : addD (.tuple x) (.tuple y) = if x.length + y.length ≤ 16777216 then some (.tuple (x ++ y)) else none := nd rfl
@[simp] theorem subD_int (i j : Int) : subD (.int i) (.int j) = some (.int (i - j)) := nd rfl
theorem mulD_int (i j : Int) : mulD (.int i) (.int j) = if mulOk i j = true then some (.int (i * j)) else none := nd rfl
theorem mulOk_r {i j : Int} (h1 : -(2 ^ 64) < j) (h2 : j < 2 ^ 64) : mulOk i j = true := by unfold mulOk; rw [decide_eq_true_eq]; exact .inl (.inr ⟨h1, h2⟩)
theorem mulOk_l {i j : Int} (h1 : -(2 ^ 64) < i) (h2 : i < 2 ^ 64) : mulOk i j = true := by unfold mulOk; rw [decide_eq_true_eq]; exact .inl (.inl ⟨h1, h2⟩)
/-- a product by a small number -/
theorem mulD_r (i j : Int) (h : (decide (-(2 ^ 64) < j) && decide (j < 2 ^ 64)) = true) : mulD (.int i) (.int j) = some (.int (i * j)) := by
  rw [Bool.and_eq_true, decide_eq_true_eq, decide_eq_true_eq] at h
  rw [mulD_int, if_pos (mulOk_r h.1 h.2)]
theorem mulD_l (i j : Int) (h : (decide (-(2 ^ 64) < i) && decide (i < 2 ^ 64)) = true) : mulD (.int i) (.int j) = some (.int (i * j)) := by
  rw [Bool.and_eq_true, decide_eq_true_eq, decide_eq_true_eq] at h
  rw [mulD_int, if_pos (mulOk_l h.1 h.2)]
theorem fdivD_int (i j : Int) : fdivD (.int i) (.int j) = if divOk j = true then some (.int (i.fdiv j)) else none := nd rfl
/-- by a number of less than 65 bits -/
@[simp] theorem mulD_sr (i j : Int) (h1 : -18446744073709551616 < j) (h2 : j < 18446744073709551616) : mulD (.int i) (.int j) = some (.int (i * j)) := by
  rw [mulD_int, if_pos (mulOk_r (by omega) (by omega))]
@[simp] theorem mulD_sl (i j : Int) (h1 : -18446744073709551616 < i) (h2 : i < 18446744073709551616) : mulD (.int i) (.int j) = some (.int (i * j)) := by
  rw [mulD_int, if_pos (mulOk_l (by omega) (by omega))]
theorem log2_small {n : Nat} (h : n < 18446744073709551616) : n.log2 < 9000 := by
  by_cases h0 : n = 0
  · subst h0; decide
  · have : n.log2 < 64 := (Nat.log2_lt h0).mpr (by omega)
    omega
theorem divOk_s {j : Int} (h1 : 0 < j) (h2 : j < 18446744073709551616) : divOk j = true := by
  unfold divOk
  rw [decide_eq_true_eq]
  exact ⟨by omega, log2_small (by omega)⟩
@[simp] theorem fdivD_s (i j : Int) (h1 : 0 < j) (h2 : j < 18446744073709551616) : fdivD (.int i) (.int j) = some (.int (i.fdiv j)) := by
  rw [fdivD_int, if_pos (divOk_s h1 h2)]
@[simp] theorem modD_int (i j : Int) : modD (.int i) (.int j) = if j = 0 then none else some (.int (i.fmod j)) := nd rfl
theorem powD_int (i j : Int) : powD (.int i) (.int j) = if 0 ≤ j ∧ j ≤ 1000000 ∧ i.natAbs < 2 ^ 64 then some (.int (i ^ j.toNat)) else none := nd rfl
theorem powD_of {i j v : Int} (h : (decide (0 ≤ j ∧ j ≤ 1000000 ∧ i.natAbs < 2 ^ 64) && decide (i ^ j.toNat = v)) = true) : powD (.int i) (.int j) = some (.int v) := by
  rw [Bool.and_eq_true, decide_eq_true_eq, decide_eq_true_eq] at h
  rw [powD_int, if_pos h.1, h.2]
@[simp] theorem powD_10_1 : powD (.int 10) (.int 1) = some (.int 10) := powD_of (by decide +kernel)
@[simp] theorem powD_10_2 : powD (.int 10) (.int 2) = some (.int 100) := powD_of (by decide +kernel)
@[simp] theorem powD_10_3 : powD (.int 10) (.int 3) = some (.int 1000) := powD_of (by decide +kernel)
@[simp] theorem powD_10_4 : powD (.int 10) (.int 4) = some (.int 10000) := powD_of (by decide +kernel)
@[simp] theorem powD_10_5 : powD (.int 10) (.int 5) = some (.int 100000) := powD_of (by decide +kernel)
@[simp] theorem powD_10_6 : powD (.int 10) (.int 6) = some (.int 1000000) := powD_of (by decide +kernel)
@[simp] theorem powD_10_7 : powD (.int 10) (.int 7) = some (.int 10000000) := powD_of (by decide +kernel)
@[simp] theorem powD_10_8 : powD (.int 10) (.int 8) = some (.int 100000000) := powD_of (by decide +kernel)
@[simp] theorem powD_10_9 : powD (.int 10) (.int 9) = some (.int 1000000000) := powD_of (by decide +kernel)
@[simp] theorem powD_10_10 : powD (.int 10) (.int 10) = some (.int 10000000000) := powD_of (by decide +kernel)
@[simp] theorem powD_10_11 : powD (.int 10) (.int 11) = some (.int 100000000000) := powD_of (by decide +kernel)
@[simp] theorem powD_10_12 : powD (.int 10) (.int 12) = some (.int 1000000000000) := powD_of (by decide +kernel)
@[simp] theorem powD_10_13 : powD (.int 10) (.int 13) = some (.int 10000000000000) := powD_of (by decide +kernel)
@[simp] theorem powD_10_14 : powD (.int 10) (.int 14) = some (.int 100000000000000) := powD_of (by decide +kernel)
@[simp] theorem powD_10_15 : powD (.int 10) (.int 15) = some (.int 1000000000000000) := powD_of (by decide +kernel)
@[simp] theorem powD_10_16 : powD (.int 10) (.int 16) = some (.int 10000000000000000) := powD_of (by decide +kernel)
@[simp] theorem powD_10_17 : powD (.int 10) (.int 17) = some (.int 100000000000000000) := powD_of (by decide +kernel)
@[simp] theorem powD_10_18 : powD (.int 10) (.int 18) = some (.int 1000000000000000000) := powD_of (by decide +kernel)
@[simp] theorem powD_10_19 : powD (.int 10) (.int 19) = some (.int 10000000000000000000) := powD_of (by decide +kernel)
@[simp] theorem powD_10_20 : powD (.int 10) (.int 20) = some (.int 100000000000000000000) := powD_of (by decide +kernel)
@[simp] theorem powD_10_21 : powD (.int 10) (.int 21) = some (.int 1000000000000000000000) := powD_of (by decide +kernel)
@[simp] theorem powD_10_22 : powD (.int 10) (.int 22) = some (.int 10000000000000000000000) := powD_of (by decide +kernel)
@[simp] theorem powD_10_23 : powD (.int 10) (.int 23) = some (.int 100000000000000000000000) := powD_of (by decide +kernel)
@[simp] theorem powD_10_24 : powD (.int 10) (.int 24) = some (.int 1000000000000000000000000) := powD_of (by decide +kernel)
@[simp] theorem powD_10_25 : powD (.int 10) (.int 25) = some (.int 10000000000000000000000000) := powD_of (by decide +kernel)
@[simp] theorem powD_10_26 : powD (.int 10) (.int 26) = some (.int 100000000000000000000000000) := powD_of (by decide +kernel)
@[simp] theorem powD_10_27 : powD (.int 10) (.int 27) = some (.int 1000000000000000000000000000) := powD_of (by decide +kernel)
@[simp] theorem powD_10_28 : powD (.int 10) (.int 28) = some (.int 10000000000000000000000000000) := powD_of (by decide +kernel)
@[simp] theorem powD_10_29 : powD (.int 10) (.int 29) = some (.int 100000000000000000000000000000) := powD_of (by decide +kernel)
@[simp] theorem powD_10_30 : powD (.int 10) (.int 30) = some (.int 1000000000000000000000000000000) := powD_of (by decide +kernel)
@[simp] theorem negD_int (i : Int) : negD (.int i) = some (.int (-i)) := nd rfl
@[simp] theorem ltD_int (i j : Int) : ltD (.int i) (.int j) = some (.bool (decide (i < j))) := nd rfl
@[simp] theorem ltV_int (i j : Int) : ltV (.int i) (.int j) = some (.bool (decide (i < j))) := by
  simp [ltV, noDic, PyData.depth, lessD]
@[simp] theorem ltV_str (x y : Str) : ltV (.str x) (.str y) = some (.bool (decide (x.cps.toList < y.cps.toList))) := by
  simp [ltV, noDic, PyData.depth, lessD]
@[simp] theorem ltV_bool (x y : Bool) : ltV (.bool x) (.bool y) = some (.bool (decide (b2i x < b2i y))) := by
  simp [ltV, noDic, PyData.depth, lessD]
@[simp] theorem gtV_int (i j : Int) : gtV (.int i) (.int j) = some (.bool (decide (j < i))) := by
  simp [gtV, noDic, PyData.depth, moreD]
@[simp] theorem gtV_str (x y : Str) : gtV (.str x) (.str y) = some (.bool (decide (y.cps.toList < x.cps.toList))) := by
  simp [gtV, noDic, PyData.depth, moreD]
@[simp] theorem gtV_bool (x y : Bool) : gtV (.bool x) (.bool y) = some (.bool (decide (b2i y < b2i x))) := by
  simp [gtV, noDic, PyData.depth, moreD]
@[simp] theorem ltD_bool (x y : Bool) : ltD (.bool x) (.bool y) = some (.bool (decide (b2i x < b2i y))) := nd rfl
@[simp] theorem leD_bool (x y : Bool) : leD (.bool x) (.bool y) = some (.bool (decide (b2i x ≤ b2i y))) := nd rfl
@[simp] theorem gtD_bool (x y : Bool) : gtD (.bool x) (.bool y) = some (.bool (decide (b2i y < b2i x))) := nd rfl
@[simp] theorem geD_bool (x y : Bool) : geD (.bool x) (.bool y) = some (.bool (decide (b2i y ≤ b2i x))) := nd rfl
@[simp] theorem leD_int (i j : Int) : leD (.int i) (.int j) = some (.bool (decide (i ≤ j))) := nd rfl
@[simp] theorem gtD_int (i j : Int) : gtD (.int i) (.int j) = some (.bool (decide (j < i))) := nd rfl
@[simp] theorem geD_int (i j : Int) : geD (.int i) (.int j) = some (.bool (decide (j ≤ i))) := nd rfl
@[simp] theorem ltD_str (x y : Str) : ltD (.str x) (.str y) = some (.bool (decide (x.cps.toList < y.cps.toList))) := nd rfl
@[simp] theorem leD_str (x y : Str) : leD (.str x) (.str y) = some (.bool (!decide (y.cps.toList < x.cps.toList))) := nd rfl
@[simp] theorem gtD_str (x y : Str) : gtD (.str x) (.str y) = some (.bool (decide (y.cps.toList < x.cps.toList))) := nd rfl
@[simp] theorem geD_str (x y : Str) : geD (.str x) (.str y) = some (.bool (!decide (x.cps.toList < y.cps.toList))) := nd rfl
theorem beq_dec {α : Type} [BEq α] [LawfulBEq α] [DecidableEq α] (i j : α) : (i == j) = decide (i = j) := Bool.eq_iff_iff.mpr (by simp)
@[simp] theorem eqD_int (i j : Int) : eqD (.int i) (.int j) = some (.bool (decide (i = j))) := by
  simp [eqD, eqOk, scalD, PyData.eqv]
  exact beq_dec i j
@[simp] theorem eqD_str (i j : Str) : eqD (.str i) (.str j) = some (.bool (decide (i = j))) := by
  simp [eqD, eqOk, scalD, PyData.eqv]
  exact beq_dec i j
@[simp] theorem eqD_bool (i j : Bool) : eqD (.bool i) (.bool j) = some (.bool (decide (i = j))) := by
  simp [eqD, eqOk, scalD, PyData.eqv]
  exact beq_dec i j
@[simp] theorem neD_int (i j : Int) : neD (.int i) (.int j) = some (.bool (!decide (i = j))) := by
  simp [neD, eqOk, scalD, PyData.eqv]
  exact beq_dec i j
@[simp] theorem neD_str (i j : Str) : neD (.str i) (.str j) = some (.bool (!decide (i = j))) := by
  simp [neD, eqOk, scalD, PyData.eqv]
  exact beq_dec i j
@[simp] theorem neD_bool (i j : Bool) : neD (.bool i) (.bool j) = some (.bool (!decide (i = j))) := by
  simp [neD, eqOk, scalD, PyData.eqv]
  exact beq_dec i j
@[simp] theorem isD_none : isD .none .none = some (.bool true) := nd rfl
@[simp] theorem isD_bool (b : Bool) : isD (.bool b) .none = some (.bool false) := nd rfl
@[simp] theorem isD_int (b : Int) : isD (.int b) .none = some (.bool false) := nd rfl
@[simp] theorem isD_str (b : Str) : isD (.str b) .none = some (.bool false) := nd rfl
@[simp] theorem isD_list (b : List PyData) : isD (.list b) .none = some (.bool false) := nd rfl
@[simp] theorem isD_tuple (b : List PyData) : isD (.tuple b) .none = some (.bool false) := nd rfl
@[simp] theorem isD_dict (b : List (PyData × PyData)) : isD (.dict b) .none = some (.bool false) := nd rfl
@[simp] theorem isNotD_none : isNotD .none .none = some (.bool false) := nd rfl
@[simp] theorem isNotD_bool (b : Bool) : isNotD (.bool b) .none = some (.bool true) := nd rfl
@[simp] theorem isNotD_int (b : Int) : isNotD (.int b) .none = some (.bool true) := nd rfl
@[simp] theorem isNotD_str (b : Str) : isNotD (.str b) .none = some (.bool true) := nd rfl
@[simp] theorem isNotD_list (b : List PyData) : isNotD (.list b) .none = some (.bool true) := nd rfl
@[simp] theorem isNotD_tuple (b : List PyData) : isNotD (.tuple b) .none = some (.bool true) := nd rfl
@[simp] theorem isNotD_dict (b : List (PyData × PyData)) : isNotD (.dict b) .none = some (.bool true) := nd rfl
@[simp] theorem lenD_list (ds : List PyData) : lenD [.list ds] = some (.int ds.length) := nd rfl
@[simp] theorem lenD_tuple (ds : List PyData) : lenD [.tuple ds] = some (.int ds.length) := nd rfl
@[simp] theorem lenD_str (z : Str) : lenD [.str z] = if z.length ≤ 16777216 then some (.int z.length) else none := nd rfl
@[simp] theorem absD_int (i : Int) : absD [.int i] = some (.int (if i < 0 then -i else i)) := nd rfl
@[simp] theorem intD_int (i : Int) : intD [.int i] = some (.int i) := nd rfl
@[simp] theorem intD_bool (b : Bool) : intD [.bool b] = some (.int (if b = true then 1 else 0)) := nd rfl
theorem ordD_one (c : Nat) : ordD [.str ⟨#[c]⟩] = some (.int c) := nd rfl
@[simp] theorem maxD_int (i j : Int) : maxD [.int i, .int j] = some (.int (if j > i then j else i)) := nd rfl
@[simp] theorem minD_int (i j : Int) : minD [.int i, .int j] = some (.int (if j < i then j else i)) := nd rfl
@[simp] theorem max2D_int (i j : Int) : max2D [.int i, .int j] = some (.int (if j > i then j else i)) := nd rfl
@[simp] theorem min2D_int (i j : Int) : min2D [.int i, .int j] = some (.int (if j < i then j else i)) := nd rfl
@[simp] theorem max2D_str (x y : Str) : max2D [.str x, .str y] = some (.str (if x.cps.toList < y.cps.toList then y else x)) := nd rfl
@[simp] theorem min2D_str (x y : Str) : min2D [.str x, .str y] = some (.str (if y.cps.toList < x.cps.toList then y else x)) := nd rfl
@[simp] theorem max2D_bool (x y : Bool) : max2D [.bool x, .bool y] = some (.bool (x || y)) := nd rfl
@[simp] theorem min2D_bool (x y : Bool) : min2D [.bool x, .bool y] = some (.bool (x && y)) := nd rfl
@[simp] theorem tupleD_list (ds : List PyData) : tupleD [.list ds] = some (.tuple ds) := nd rfl
@[simp] theorem tupleD_tuple (ds : List PyData) : tupleD [.tuple ds] = some (.tuple ds) := nd rfl
@[simp] theorem listD_list (ds : List PyData) : listD [.list ds] = some (.list ds) := nd rfl
@[simp] theorem listD_tuple (ds : List PyData) : listD [.tuple ds] = some (.list ds) := nd rfl
@[simp] theorem tupD_is (ds : List PyData) : tupD ds = if ds.length ≤ 1000 then some (.tuple ds) else none := nd rfl
@[simp] theorem itemsOf_list (ds : List PyData) : itemsOf (.list ds) = some ds := nd rfl
@[simp] theorem itemsOf_tuple (ds : List PyData) : itemsOf (.tuple ds) = some ds := nd rfl
@[simp] theorem itemsOf_str (z : Str) : itemsOf (.str z) = some (signsD z) := nd rfl
@[simp] theorem ixD_list (ds : List PyData) (i : Int) : ixD (.list ds) (.int i) = atI ds i := nd rfl
@[simp] theorem ixD_tuple (ds : List PyData) (i : Int) : ixD (.tuple ds) (.int i) = atI ds i := nd rfl
theorem ixD_str (z : Str) (i : Int) : ixD (.str z) (.int i) = if z.length ≤ 16777216 then (atI z.cps.toList i).map fun c => .str ⟨#[c]⟩ else none := nd rfl
@[simp] theorem slD_list (ds : List PyData) (i j : Option Int) : slD (.list ds) i j = some (.list (cutD ds i j)) := nd rfl
@[simp] theorem slD_tuple (ds : List PyData) (i j : Option Int) : slD (.tuple ds) i j = some (.tuple (cutD ds i j)) := nd rfl
@[simp] theorem slD_str (z : Str) (i j : Option Int) : slD (.str z) i j = if z.length ≤ 16777216 then some (.str (cutS z i j)) else none := nd rfl
@[simp] theorem isi1_is (g : PyData → Bool) (d : PyData) : isi1 g d = some (.bool (g d)) := nd rfl
@[simp] theorem isi2_is (g g' : PyData → Bool) (d : PyData) : isi2 g g' d = some (.bool (g d || g' d)) := nd rfl
section
variable (b : Bool) (i : Int) (z : Str) (l : List PyData) (kv : List (PyData × PyData))
@[simp] theorem isInt1 : isInt .none = false := nd rfl
@[simp] theorem isInt2 : isInt (.bool b) = true := nd rfl
@[simp] theorem isInt3 : isInt (.int i) = true := nd rfl
@[simp] theorem isInt4 : isInt (.str z) = false := nd rfl
@[simp] theorem isInt5 : isInt (.list l) = false := nd rfl
@[simp] theorem isInt6 : isInt (.tuple l) = false := nd rfl
@[simp] theorem isInt7 : isInt (.dict kv) = false := nd rfl
@[simp] theorem isBool1 : isBool .none = false := nd rfl
@[simp] theorem isBool2 : isBool (.bool b) = true := nd rfl
@[simp] theorem isBool3 : isBool (.int i) = false := nd rfl
@[simp] theorem isBool4 : isBool (.str z) = false := nd rfl
@[simp] theorem isBool5 : isBool (.list l) = false := nd rfl
@[simp] theorem isBool6 : isBool (.tuple l) = false := nd rfl
@[simp] theorem isBool7 : isBool (.dict kv) = false := nd rfl
@[simp] theorem isStr1 : isStr .none = false := nd rfl
@[simp] theorem isStr2 : isStr (.bool b) = false := nd rfl
@[simp] theorem isStr3 : isStr (.int i) = false := nd rfl
@[simp] theorem isStr4 : isStr (.str z) = true := nd rfl
@[simp] theorem isStr5 : isStr (.list l) = false := nd rfl
@[simp] theorem isStr6 : isStr (.tuple l) = false := nd rfl
@[simp] theorem isStr7 : isStr (.dict kv) = false := nd rfl
@[simp] theorem isList1 : isList .none = false := nd rfl
@[simp] theorem isList2 : isList (.bool b) = false := nd rfl
@[simp] theorem isList3 : isList (.int i) = false := nd rfl
@[simp] theorem isList4 : isList (.str z) = false := nd rfl
@[simp] theorem isList5 : isList (.list l) = true := nd rfl
@[simp] theorem isList6 : isList (.tuple l) = false := nd rfl
@[simp] theorem isList7 : isList (.dict kv) = false := nd rfl
@[simp] theorem isTuple1 : isTuple .none = false := nd rfl
@[simp] theorem isTuple2 : isTuple (.bool b) = false := nd rfl
@[simp] theorem isTuple3 : isTuple (.int i) = false := nd rfl
@[simp] theorem isTuple4 : isTuple (.str z) = false := nd rfl
@[simp] theorem isTuple5 : isTuple (.list l) = false := nd rfl
@[simp] theorem isTuple6 : isTuple (.tuple l) = true := nd rfl
@[simp] theorem isTuple7 : isTuple (.dict kv) = false := nd rfl
end

/-! ### loops -/
section
variable (bt : PyData → Sls → Option Sls) (g : Sls → Out) (d : PyData) (ds : List PyData) (ρ : Sls) (t : Sls → Res Bool) (f : Sls → Res PyData)
@[simp] theorem forL_nil : forL bt g [] ρ = .nx ρ := nd rfl
/-- a turn is done -/
def Out.turn (o : Out) (k : Sls → Out) : Out := match o with
  | .nx ρ2 => k ρ2
  | .ct ρ2 => k ρ2
  | .bk ρ2 => .nx ρ2
  | .rt d => .rt d
  | .exc x ρ2 => .exc x ρ2
  | .bad => .bad
@[simp] theorem turn_nx (k : Sls → Out) : (Out.nx ρ).turn k = k ρ := nd rfl
@[simp] theorem turn_ct (k : Sls → Out) : (Out.ct ρ).turn k = k ρ := nd rfl
@[simp] theorem turn_bk (k : Sls → Out) : (Out.bk ρ).turn k = .nx ρ := nd rfl
@[simp] theorem turn_rt (k : Sls → Out) : (Out.rt d).turn k = .rt d := nd rfl
@[simp] theorem turn_bad (k : Sls → Out) : Out.bad.turn k = .bad := nd rfl
theorem forL_name (i : Nat) : forL (bName i) g (d :: ds) ρ = (g (ρ.set i (.val d))).turn (forL (bName i) g ds) := by
  simp only [forL, bName]
  cases g (ρ.set i (.val d)) <;> rfl
theorem forL_cons {ρ1 : Sls} (h : bt d ρ = some ρ1) : forL bt g (d :: ds) ρ = (g ρ1).turn (forL bt g ds) := by
  simp only [forL, h]
  cases g ρ1 <;> rfl
@[simp] theorem compL_nil : compL bt t f ρ [] = .ok [] := nd rfl
theorem compL_name (i : Nat) (h : t (ρ.set i (.val d)) = .ok true) {y : PyData} (hy : f (ρ.set i (.val d)) = .ok y) {ys : List PyData} (hr : compL (bName i) t f ρ ds = .ok ys) : compL (bName i) t f ρ (d :: ds) = .ok (y :: ys) := by
  simp only [compL, bName, h, hy, hr, bind_ok]
theorem compL_skip (i : Nat) (h : t (ρ.set i (.val d)) = .ok false) : compL (bName i) t f ρ (d :: ds) = compL (bName i) t f ρ ds := by
  simp only [compL, bName, h]
/-- a comprehension without a test, by a property of what each place gives -/
theorem compL_all (i : Nat) {P : PyData → Prop} : ∀ (ds : List PyData) (h : ∀ d ∈ ds, ∃ y, f (ρ.set i (.val d)) = .ok y ∧ P y), ∃ ys, compL (bName i) tYesD f ρ ds = .ok ys ∧ ys.length = ds.length ∧ ∀ y ∈ ys, P y
  | [], _ => ⟨[], rfl, rfl, fun y h => by cases h⟩
  | d :: ds, h => by
    obtain ⟨y, h1, h2⟩ := h d List.mem_cons_self
    obtain ⟨ys, h3, h4, h5⟩ := compL_all i ds fun d' hd => h d' (List.mem_cons_of_mem _ hd)
    exact ⟨y :: ys, compL_name _ _ _ _ _ i rfl h1 h3, by rw [List.length_cons, List.length_cons, h4], fun z hz => by
      rcases List.mem_cons.mp hz with rfl | hz
      · exact h2
      · exact h5 z hz⟩
/-- a comprehension without a test is a map -/
theorem compL_map (i : Nat) {φ : PyData → PyData} : ∀ (ds : List PyData) (h : ∀ d ∈ ds, f (ρ.set i (.val d)) = .ok (φ d)), compL (bName i) tYesD f ρ ds = .ok (ds.map φ)
  | [], _ => rfl
  | d :: ds, h => compL_name _ _ _ _ _ i rfl (h d List.mem_cons_self) (compL_map i ds fun d' hd => h d' (List.mem_cons_of_mem _ hd))
end
theorem rangeD_zero (lo : Int) : rangeD lo 0 = [] := nd rfl
theorem rangeD_succ (lo : Int) (n : Nat) : rangeD lo (n + 1) = .int lo :: rangeD (lo + 1) n := by
  unfold rangeD
  rw [List.range_succ_eq_map, List.map_cons, List.map_map]
  have h : ∀ i : Nat, (PyData.int (lo + ((i + 1 : Nat) : Int))) = PyData.int (lo + 1 + (i : Nat)) := fun i => by congr 1; omega
  simp only [Function.comp_def, Nat.succ_eq_add_one, h]
  congr 2
  omega
theorem rangeD_length (lo : Int) (n : Nat) : (rangeD lo n).length = n := by unfold rangeD; simp
theorem rangeD_mem {lo : Int} {n : Nat} {d : PyData} (h : d ∈ rangeD lo n) : ∃ j : Nat, j < n ∧ d = .int (lo + j) := by
  unfold rangeD at h
  obtain ⟨j, h1, h2⟩ := List.mem_map.mp h
  exact ⟨j, List.mem_range.mp h1, h2.symm⟩
theorem rangeD_mem0 {n : Nat} {d : PyData} (h : d ∈ rangeD 0 n) : ∃ j : Nat, j < n ∧ d = .int j := by
  obtain ⟨j, h1, h2⟩ := rangeD_mem h
  exact ⟨j, h1, by rw [h2, Int.zero_add]⟩
theorem rng1_is (n : Int) (h1 : -(2 ^ 62) ≤ n) (h : n < 2 ^ 62) : rng1 [.int n] = some (rangeD 0 n.toNat) := by
  show (if -(2 ^ 62) ≤ n ∧ n < 2 ^ 62 then some (rangeD 0 n.toNat) else none) = _
  rw [if_pos ⟨h1, h⟩]
theorem rng1_nat (n : Nat) (h : n < 2 ^ 62) : rng1 [.int (n : Int)] = some (rangeD 0 n) := by
  rw [rng1_is _ (by omega) (by omega), Int.toNat_natCast]

/-! ### places -/
theorem atI_nat {α : Type} (xs : List α) (k : Nat) : atI xs (k : Int) = xs[k]? := by
  unfold atI ixN
  rw [if_pos (by omega)]
  by_cases h : k < xs.length
  · rw [if_pos (by omega)]
    simp
  · rw [if_neg (by omega)]
    simp only [Option.bind_none]
    rw [List.getElem?_eq_none (by omega)]
theorem atI_of {α : Type} {xs : List α} {i : Int} (h0 : 0 ≤ i) (h1 : i < xs.length) : ∃ x, atI xs i = some x ∧ xs[i.toNat]? = some x := by
  obtain ⟨k, rfl⟩ := Int.eq_ofNat_of_zero_le h0
  have hk : k < xs.length := by omega
  refine ⟨xs[k], ?_, ?_⟩
  · show atI xs (k : Int) = _
    rw [atI_nat, List.getElem?_eq_getElem hk]
  · show xs[k]? = _
    rw [List.getElem?_eq_getElem hk]
theorem atI_mem {α : Type} {xs : List α} {i : Int} (h0 : 0 ≤ i) (h1 : i < xs.length) : ∃ x, atI xs i = some x ∧ x ∈ xs := by
  obtain ⟨x, h, h2⟩ := atI_of h0 h1
  exact ⟨x, h, List.mem_of_getElem? h2⟩
@[simp] theorem atI_zero {α : Type} (xs : List α) : atI xs 0 = xs[0]? := atI_nat xs 0
@[simp] theorem atI_one {α : Type} (xs : List α) : atI xs 1 = xs[1]? := atI_nat xs 1
@[simp] theorem atI_2 {α : Type} (xs : List α) : atI xs 2 = xs[2]? := atI_nat xs 2
@[simp] theorem atI_3 {α : Type} (xs : List α) : atI xs 3 = xs[3]? := atI_nat xs 3
@[simp] theorem atI_4 {α : Type} (xs : List α) : atI xs 4 = xs[4]? := atI_nat xs 4
@[simp] theorem atI_5 {α : Type} (xs : List α) : atI xs 5 = xs[5]? := atI_nat xs 5
@[simp] theorem atI_6 {α : Type} (xs : List α) : atI xs 6 = xs[6]? := atI_nat xs 6
@[simp] theorem atI_7 {α : Type} (xs : List α) : atI xs 7 = xs[7]? := atI_nat xs 7
@[simp] theorem atI_8 {α : Type} (xs : List α) : atI xs 8 = xs[8]? := atI_nat xs 8
@[simp] theorem atI_9 {α : Type} (xs : List α) : atI xs 9 = xs[9]? := atI_nat xs 9
@[simp] theorem atI_10 {α : Type} (xs : List α) : atI xs 10 = xs[10]? := atI_nat xs 10
@[simp] theorem atI_11 {α : Type} (xs : List α) : atI xs 11 = xs[11]? := atI_nat xs 11
@[simp] theorem atI_12 {α : Type} (xs : List α) : atI xs 12 = xs[12]? := atI_nat xs 12
@[simp] theorem atI_13 {α : Type} (xs : List α) : atI xs 13 = xs[13]? := atI_nat xs 13
@[simp] theorem atI_14 {α : Type} (xs : List α) : atI xs 14 = xs[14]? := atI_nat xs 14
@[simp] theorem atI_15 {α : Type} (xs : List α) : atI xs 15 = xs[15]? := atI_nat xs 15
@[simp] theorem atI_16 {α : Type} (xs : List α) : atI xs 16 = xs[16]? := atI_nat xs 16
@[simp] theorem atI_17 {α : Type} (xs : List α) : atI xs 17 = xs[17]? := atI_nat xs 17
@[simp] theorem atI_18 {α : Type} (xs : List α) : atI xs 18 = xs[18]? := atI_nat xs 18
@[simp] theorem atI_19 {α : Type} (xs : List α) : atI xs 19 = xs[19]? := atI_nat xs 19
@[simp] theorem atI_20 {α : Type} (xs : List α) : atI xs 20 = xs[20]? := atI_nat xs 20
@[simp] theorem atI_21 {α : Type} (xs : List α) : atI xs 21 = xs[21]? := atI_nat xs 21
@[simp] theorem atI_22 {α : Type} (xs : List α) : atI xs 22 = xs[22]? := atI_nat xs 22
@[simp] theorem atI_23 {α : Type} (xs : List α) : atI xs 23 = xs[23]? := atI_nat xs 23
@[simp] theorem atI_24 {α : Type} (xs : List α) : atI xs 24 = xs[24]? := atI_nat xs 24
@[simp] theorem atI_25 {α : Type} (xs : List α) : atI xs 25 = xs[25]? := atI_nat xs 25
@[simp] theorem atI_26 {α : Type} (xs : List α) : atI xs 26 = xs[26]? := atI_nat xs 26
@[simp] theorem atI_27 {α : Type} (xs : List α) : atI xs 27 = xs[27]? := atI_nat xs 27
@[simp] theorem atI_28 {α : Type} (xs : List α) : atI xs 28 = xs[28]? := atI_nat xs 28
@[simp] theorem atI_29 {α : Type} (xs : List α) : atI xs 29 = xs[29]? := atI_nat xs 29
@[simp] theorem atI_30 {α : Type} (xs : List α) : atI xs 30 = xs[30]? := atI_nat xs 30
@[simp] theorem atI_31 {α : Type} (xs : List α) : atI xs 31 = xs[31]? := atI_nat xs 31
@[simp] theorem atI_32 {α : Type} (xs : List α) : atI xs 32 = xs[32]? := atI_nat xs 32
@[simp] theorem atI_33 {α : Type} (xs : List α) : atI xs 33 = xs[33]? := atI_nat xs 33
@[simp] theorem atI_34 {α : Type} (xs : List α) : atI xs 34 = xs[34]? := atI_nat xs 34
@[simp] theorem atI_35 {α : Type} (xs : List α) : atI xs 35 = xs[35]? := atI_nat xs 35
@[simp] theorem atI_36 {α : Type} (xs : List α) : atI xs 36 = xs[36]? := atI_nat xs 36
@[simp] theorem atI_37 {α : Type} (xs : List α) : atI xs 37 = xs[37]? := atI_nat xs 37
@[simp] theorem atI_38 {α : Type} (xs : List α) : atI xs 38 = xs[38]? := atI_nat xs 38
@[simp] theorem atI_39 {α : Type} (xs : List α) : atI xs 39 = xs[39]? := atI_nat xs 39
@[simp] theorem atI_40 {α : Type} (xs : List α) : atI xs 40 = xs[40]? := atI_nat xs 40
@[simp] theorem atI_41 {α : Type} (xs : List α) : atI xs 41 = xs[41]? := atI_nat xs 41
@[simp] theorem atI_42 {α : Type} (xs : List α) : atI xs 42 = xs[42]? := atI_nat xs 42
@[simp] theorem atI_43 {α : Type} (xs : List α) : atI xs 43 = xs[43]? := atI_nat xs 43
@[simp] theorem atI_44 {α : Type} (xs : List α) : atI xs 44 = xs[44]? := atI_nat xs 44
@[simp] theorem atI_45 {α : Type} (xs : List α) : atI xs 45 = xs[45]? := atI_nat xs 45
@[simp] theorem atI_46 {α : Type} (xs : List α) : atI xs 46 = xs[46]? := atI_nat xs 46
@[simp] theorem atI_47 {α : Type} (xs : List α) : atI xs 47 = xs[47]? := atI_nat xs 47
@[simp] theorem atI_48 {α : Type} (xs : List α) : atI xs 48 = xs[48]? := atI_nat xs 48
@[simp] theorem atI_49 {α : Type} (xs : List α) : atI xs 49 = xs[49]? := atI_nat xs 49
@[simp] theorem atI_50 {α : Type} (xs : List α) : atI xs 50 = xs[50]? := atI_nat xs 50
@[simp] theorem atI_51 {α : Type} (xs : List α) : atI xs 51 = xs[51]? := atI_nat xs 51
@[simp] theorem atI_52 {α : Type} (xs : List α) : atI xs 52 = xs[52]? := atI_nat xs 52
@[simp] theorem atI_53 {α : Type} (xs : List α) : atI xs 53 = xs[53]? := atI_nat xs 53
@[simp] theorem atI_54 {α : Type} (xs : List α) : atI xs 54 = xs[54]? := atI_nat xs 54
@[simp] theorem atI_55 {α : Type} (xs : List α) : atI xs 55 = xs[55]? := atI_nat xs 55
@[simp] theorem atI_56 {α : Type} (xs : List α) : atI xs 56 = xs[56]? := atI_nat xs 56
@[simp] theorem atI_57 {α : Type} (xs : List α) : atI xs 57 = xs[57]? := atI_nat xs 57
@[simp] theorem atI_58 {α : Type} (xs : List α) : atI xs 58 = xs[58]? := atI_nat xs 58
@[simp] theorem atI_59 {α : Type} (xs : List α) : atI xs 59 = xs[59]? := atI_nat xs 59
@[simp] theorem atI_60 {α : Type} (xs : List α) : atI xs 60 = xs[60]? := atI_nat xs 60
@[simp] theorem atI_61 {α : Type} (xs : List α) : atI xs 61 = xs[61]? := atI_nat xs 61
@[simp] theorem atI_62 {α : Type} (xs : List α) : atI xs 62 = xs[62]? := atI_nat xs 62
@[simp] theorem atI_63 {α : Type} (xs : List α) : atI xs 63 = xs[63]? := atI_nat xs 63
@[simp] theorem atI_64 {α : Type} (xs : List α) : atI xs 64 = xs[64]? := atI_nat xs 64
/-- a list of ints -/
theorem atI_ints {xs : List Int} {i : Int} (h0 : 0 ≤ i) (h1 : i < xs.length) : ∃ x, atI (xs.map PyData.int) i = some (.int x) ∧ x ∈ xs := by
  obtain ⟨d, h, hm⟩ := atI_mem (xs := xs.map PyData.int) h0 (by simpa using h1)
  obtain ⟨x, hx, rfl⟩ := List.mem_map.mp hm
  exact ⟨x, h, hx⟩
theorem fmod_bound {a b : Int} (h : 0 < b) : 0 ≤ a.fmod b ∧ a.fmod b < b := ⟨Int.fmod_nonneg_of_pos a h, Int.fmod_lt_of_pos a h⟩
@[simp] theorem frz0 (ds : List PyData) (ρ : Sls) : frz 0 (.own ds :: ρ) = .val (.list ds) :: ρ := nd rfl
@[simp] theorem frz0v (d : PyData) (ρ : Sls) : frz 0 (.val d :: ρ) = .val d :: ρ := nd rfl
@[simp] theorem frz0u (ρ : Sls) : frz 0 (.un :: ρ) = .un :: ρ := nd rfl
@[simp] theorem frz_succ (i : Nat) (s : Sl) (ρ : Sls) : frz (i + 1) (s :: ρ) = s :: frz i ρ := by
  unfold frz
  rw [List.getElem?_cons_succ]
  cases e : ρ[i]? with
  | none => rfl
  | some s' => cases s' <;> rfl
@[simp] theorem gApp_is (i : Nat) (f : Sls → Res PyData) (ρ : Sls) {ds : List PyData} (h : ρ[i]? = some (.own ds)) : gApp i f ρ = (f ρ).out (fun d ρ => if ds.length < 16777216 then .nx (ρ.set i (.own (ds ++ [d]))) else .bad) ρ := by
  unfold gApp
  rw [h]
  exact sE_is ..

/-! ### texts as lists of numbers -/
def tx (l : List Nat) : Str := ⟨l.toArray⟩
section
variable (a b l : List Nat) (c : Nat) (i : Int) (lo hi : Option Int)
@[simp] theorem tx_len : (tx l).length = l.length := by show l.toArray.size = _; simp
@[simp] theorem tx_app : tx a ++ tx b = tx (a ++ b) := by
  show (⟨a.toArray ++ b.toArray⟩ : Str) = ⟨(a ++ b).toArray⟩
  rw [List.append_toArray]
@[simp] theorem tx_cps : (tx l).cps.toList = l := by show l.toArray.toList = _; simp
theorem tx_of (z : Str) : ∃ l, z = tx l := ⟨z.cps.toList, by cases z; rfl⟩
@[simp] theorem tx_inj : (tx a = tx b) = (a = b) := propext ⟨fun h => by rw [← tx_cps a, h, tx_cps], fun h => by rw [h]⟩
@[simp] theorem ixD_tx : ixD (.str (tx l)) (.int i) = if l.length ≤ 16777216 then (atI l i).map fun c => .str (tx [c]) else none := by
  rw [ixD_str, tx_len, tx_cps]; rfl
/-- a part of a list -/
def cutL {α : Type} (xs : List α) (lo hi : Option Int) : List α := (xs.drop (HT.sIx xs.length 0 lo)).take (HT.sIx xs.length xs.length hi - HT.sIx xs.length 0 lo)
theorem cutD_is (xs : List PyData) : cutD xs lo hi = cutL xs lo hi := rfl
@[simp] theorem cutS_tx : cutS (tx l) lo hi = tx (cutL l lo hi) := by
  unfold cutS cutL tx
  have h : (⟨l.toArray⟩ : Str).length = l.length := tx_len l
  rw [h]
@[simp] theorem signsD_tx : signsD (tx l) = l.map fun c => .str (tx [c]) := by
  unfold signsD; rw [tx_cps]; rfl
@[simp] theorem intXD_int (i : Int) : intXD [.int i] = some (.int i) := nd rfl
@[simp] theorem intXD_bool (b : Bool) : intXD [.bool b] = some (.int (if b = true then 1 else 0)) := nd rfl
@[simp] theorem intXD_str (z : Str) : intXD [.str z] = if z.length ≤ 640 then (PySem.intText? z).map .int else none := nd rfl
@[simp] theorem ordD_tx : ordD [.str (tx [c])] = some (.int c) := nd rfl
@[simp] theorem inD_tx : inD (.str (tx [c])) (.str (tx l)) = some (.bool (decide (c ∈ l))) := by
  show some (PyData.bool (!(Builtin.Str.occurrences (tx l) (tx [c]) 0 (tx l).length 1).isEmpty)) = _
  rw [show tx [c] = (⟨#[c]⟩ : Str) from rfl, PySem.StrLaws.found_one, tx_cps]
@[simp] theorem notInD_tx : notInD (.str (tx [c])) (.str (tx l)) = some (.bool (!decide (c ∈ l))) := by
  show some (PyData.bool (!(!(Builtin.Str.occurrences (tx l) (tx [c]) 0 (tx l).length 1).isEmpty))) = _
  rw [show tx [c] = (⟨#[c]⟩ : Str) from rfl, PySem.StrLaws.found_one, tx_cps]
end
theorem list_choose {α β : Type} {f : α → β} {p : α → Prop} : ∀ {ys : List β}, (∀ y ∈ ys, ∃ c, y = f c ∧ p c) → ∃ cs : List α, ys = cs.map f ∧ ∀ c ∈ cs, p c
  | [], _ => ⟨[], rfl, fun c h => by cases h⟩
  | y :: ys, h => by
    obtain ⟨c, e, q⟩ := h y List.mem_cons_self
    obtain ⟨cs, e2, q2⟩ := list_choose (ys := ys) fun z hz => h z (List.mem_cons_of_mem _ hz)
    exact ⟨c :: cs, by rw [e, e2]; rfl, fun d hd => by
      rcases List.mem_cons.mp hd with rfl | hd
      · exact q
      · exact q2 d hd⟩
theorem join_one : ∀ cs : List Nat, Txt.join (tx []) (cs.map fun c => tx [c]) = tx cs := by
  have h : ∀ cs : List Nat, Str.join (tx []) (cs.map fun c => tx [c]) = tx cs := by
    intro cs
    induction cs with
    | nil => rfl
    | cons c cs ih =>
      cases cs with
      | nil => rfl
      | cons d ds =>
        show tx [c] ++ tx [] ++ Str.join (tx []) ((d :: ds).map fun c => tx [c]) = _
        rw [ih, tx_app, tx_app]; rfl
  intro cs
  show Builtin.Str.glued (tx []) (cs.map fun c => tx [c]) = _
  rw [PySem.StrLaws.glued_eq_join, h]
/-- ''.join(a list of signs) -/
theorem joinD_one (cs : List Nat) (h : cs.length ≤ 16777216) : joinD (.str (tx [])) [.list (cs.map fun c => .str (tx [c]))] = some (.str (tx cs)) := by
  show joinS (tx []) (cs.map fun c => .str (tx [c])) = _
  unfold joinS
  have e : cs.map (fun c => PyData.str (tx [c])) = (cs.map fun c => tx [c]).map PyData.str := by rw [List.map_map]; rfl
  rw [e, strsOf_map, Option.bind_some]
  have e2 : ((cs.map fun c => tx [c]).map (·.length)).sum = cs.length := by
    rw [List.map_map]
    induction cs with
    | nil => rfl
    | cons c cs ih =>
      rw [List.map_cons, List.sum_cons, ih (by rw [List.length_cons] at h; omega) (by rw [List.map_map]; rfl), List.length_cons]
      show (tx [c]).length + _ = _
      rw [tx_len, List.length_singleton]; omega
  rw [if_pos (by rw [e2, tx_len]; simpa using h), join_one]
theorem one_ltI (a b : Nat) : ([a] < [b]) ↔ a < b := by
  rw [List.cons_lt_cons_iff]
  simp
@[simp] theorem one_lt (a b : Nat) : ([a] < [b]) = (a < b) := propext (one_ltI a b)
@[simp] theorem one_le (a b : Nat) : ([a] ≤ [b]) = (a ≤ b) := by
  refine propext ⟨fun h => ?_, fun h => ?_⟩
  · exact Nat.not_lt.mp fun z => h ((one_ltI b a).mpr z)
  · exact fun z => Nat.not_lt.mpr h ((one_ltI b a).mp z)
/-! cuts -/
theorem cutL_from {α : Type} (xs : List α) (k : Nat) : cutL xs (some (k : Int)) none = xs.drop k := by
  unfold cutL
  rw [HT.sIx_nat, HT.sIx_none]
  by_cases h : k ≤ xs.length
  · rw [Nat.min_eq_left h, List.take_of_length_le (by rw [List.length_drop]; omega)]
  · rw [Nat.min_eq_right (by omega), List.drop_eq_nil_of_le (Nat.le_refl _), List.drop_eq_nil_of_le (by omega), List.take_nil]
theorem cutL_to {α : Type} (xs : List α) (k : Nat) : cutL xs none (some (k : Int)) = xs.take k := by
  unfold cutL
  rw [HT.sIx_nat, HT.sIx_none, List.drop_zero, Nat.sub_zero]
  by_cases h : k ≤ xs.length
  · rw [Nat.min_eq_left h]
  · rw [Nat.min_eq_right (by omega), List.take_of_length_le (Nat.le_refl _), List.take_of_length_le (by omega)]
theorem cutL_from1 {α : Type} (xs : List α) (k : Nat) : cutL xs (some ((k : Int) + 1)) none = xs.drop (k + 1) := cutL_from xs (k + 1)
theorem cutL_mem {α : Type} {xs : List α} {lo hi : Option Int} {x : α} (h : x ∈ cutL xs lo hi) : x ∈ xs := List.mem_of_mem_drop (List.mem_of_mem_take h)
theorem cutL_len {α : Type} (xs : List α) (lo hi : Option Int) : (cutL xs lo hi).length ≤ xs.length := by
  unfold cutL
  rw [List.length_take, List.length_drop]; omega
/-! ### == of sequences -/
/-- no dict, texts of real signs, at most n deep -/
def niceD (n : Nat) (d : PyData) : Bool := noDic d && (d.canLay0 && decide (d.depth ≤ n))
theorem niceD_iff {n : Nat} {d : PyData} : niceD n d = true ↔ noDic d = true ∧ d.canLay0 = true ∧ d.depth ≤ n := by
  unfold niceD
  rw [Bool.and_eq_true, Bool.and_eq_true, decide_eq_true_eq]
theorem nice_eqOk {a b : PyData} (ha : niceD 64 a = true) (hb : niceD 64 b = true) : eqOk a b = true := by
  obtain ⟨h1, h2, h3⟩ := niceD_iff.mp ha
  obtain ⟨k1, k2, k3⟩ := niceD_iff.mp hb
  unfold eqOk SeqAt.shaped
  rw [h1, k1, h2, k2, decide_eq_true h3, decide_eq_true k3]
  simp
theorem eqD_nice {a b : PyData} (ha : niceD 64 a = true) (hb : niceD 64 b = true) : eqD a b = some (.bool (PyData.eqv a b)) := by
  unfold eqD; rw [if_pos (nice_eqOk ha hb)]
theorem neD_nice {a b : PyData} (ha : niceD 64 a = true) (hb : niceD 64 b = true) : neD a b = some (.bool (!PyData.eqv a b)) := by
  unfold neD; rw [if_pos (nice_eqOk ha hb)]
theorem niceD_mono {n m : Nat} {d : PyData} (h : niceD n d = true) (l : n ≤ m) : niceD m d = true := by
  obtain ⟨h1, h2, h3⟩ := niceD_iff.mp h
  exact niceD_iff.mpr ⟨h1, h2, Nat.le_trans h3 l⟩
theorem nice_all {n : Nat} : ∀ {xs : List PyData}, (∀ x ∈ xs, niceD n x = true) → noDics xs = true ∧ PyData.canLayAll0 xs = true ∧ PyData.depthAll xs ≤ n
  | [], _ => ⟨rfl, rfl, Nat.zero_le _⟩
  | x :: xs, h => by
    obtain ⟨a1, a2, a3⟩ := nice_all fun y hy => h y (List.mem_cons_of_mem _ hy)
    obtain ⟨b1, b2, b3⟩ := niceD_iff.mp (h x List.mem_cons_self)
    refine ⟨by rw [noDics, b1, a1]; rfl, by rw [PyData.canLayAll0, b2, a2]; rfl, ?_⟩
    rw [PyData.depthAll]
    exact Nat.max_le.mpr ⟨b3, a3⟩
theorem nice_list {n : Nat} {xs : List PyData} (h : ∀ x ∈ xs, niceD n x = true) : niceD (n + 1) (.list xs) = true := by
  obtain ⟨a1, a2, a3⟩ := nice_all h
  exact niceD_iff.mpr ⟨by rw [noDic]; exact a1, by rw [PyData.canLay0]; exact a2, by rw [PyData.depth]; omega⟩
theorem nice_tuple {n : Nat} {xs : List PyData} (h : ∀ x ∈ xs, niceD n x = true) : niceD (n + 1) (.tuple xs) = true := by
  obtain ⟨a1, a2, a3⟩ := nice_all h
  exact niceD_iff.mpr ⟨by rw [noDic]; exact a1, by rw [PyData.canLay0]; exact a2, by rw [PyData.depth]; omega⟩
@[simp] theorem nice_none (n : Nat) : niceD n .none = true := niceD_iff.mpr ⟨by rw [noDic], by rw [PyData.canLay0], by rw [PyData.depth]; omega⟩
@[simp] theorem nice_bool (n : Nat) (b : Bool) : niceD n (.bool b) = true := niceD_iff.mpr ⟨by rw [noDic], by rw [PyData.canLay0], by rw [PyData.depth]; omega⟩
@[simp] theorem nice_int (n : Nat) (b : Int) : niceD n (.int b) = true := niceD_iff.mpr ⟨by rw [noDic], by rw [PyData.canLay0], by rw [PyData.depth]; omega⟩
theorem nice_tx (n : Nat) (l : List Nat) (h : ∀ c ∈ l, c < 1114112) : niceD n (.str (tx l)) = true := by
  refine niceD_iff.mpr ⟨by rw [noDic], ?_, by rw [PyData.depth]; omega⟩
  rw [PyData.canLay0]
  show (l.toArray).all _ = true
  simpa using h
theorem eqv_same {n : Nat} {d : PyData} (h : niceD n d = true) : PyData.eqv d d = true := SeqAt.eqv_refl d (niceD_iff.mp h).2.1
@[simp] theorem eqD_int_str (i : Int) (z : Str) : eqD (.int i) (.str z) = some (.bool false) := by simp [eqD, eqOk, scalD, PyData.eqv]
@[simp] theorem eqD_str_int (i : Int) (z : Str) : eqD (.str z) (.int i) = some (.bool false) := by simp [eqD, eqOk, scalD, PyData.eqv]
@[simp] theorem neD_int_str (i : Int) (z : Str) : neD (.int i) (.str z) = some (.bool true) := by simp [neD, eqOk, scalD, PyData.eqv]
@[simp] theorem neD_str_int (i : Int) (z : Str) : neD (.str z) (.int i) = some (.bool true) := by simp [neD, eqOk, scalD, PyData.eqv]
@[simp] theorem eqD_none_str (z : Str) : eqD .none (.str z) = some (.bool false) := by simp [eqD, eqOk, scalD, PyData.eqv]
@[simp] theorem eqD_bool_str (b : Bool) (z : Str) : eqD (.bool b) (.str z) = some (.bool false) := by simp [eqD, eqOk, scalD, PyData.eqv]
@[simp] theorem neD_bool_str (b : Bool) (z : Str) : neD (.bool b) (.str z) = some (.bool true) := by simp [neD, eqOk, scalD, PyData.eqv]
@[simp] theorem neD_none_str (z : Str) : neD .none (.str z) = some (.bool true) := by simp [neD, eqOk, scalD, PyData.eqv]
/-- a comprehension with a test -/
theorem compL_filter {t : Sls → Res Bool} {f : Sls → Res PyData} {ρ : Sls} (i : Nat) {p : PyData → Bool} {φ : PyData → PyData} : ∀ (ds : List PyData), (∀ d ∈ ds, t (ρ.set i (.val d)) = .ok (p d)) → (∀ d ∈ ds, p d = true → f (ρ.set i (.val d)) = .ok (φ d)) →
    compL (bName i) t f ρ ds = .ok ((ds.filter p).map φ)
  | [], _, _ => rfl
  | d :: ds, h1, h2 => by
    have ih := compL_filter i ds (fun x hx => h1 x (List.mem_cons_of_mem _ hx)) fun x hx => h2 x (List.mem_cons_of_mem _ hx)
    have hd := h1 d List.mem_cons_self
    cases hp : p d with
    | true => rw [List.filter_cons_of_pos hp]; exact compL_name _ _ _ _ _ i (by rw [hd, hp]) (h2 d List.mem_cons_self hp) ih
    | false => rw [List.filter_cons_of_neg (by rw [hp]; decide), compL_skip _ _ _ _ _ i (by rw [hd, hp])]; exact ih
@[simp] theorem minLD_map (ns : List Int) : minLD [.list (ns.map .int)] = (minI ns).map .int := by
  show (intsOf (ns.map PyData.int)).bind _ = _
  rw [intsOf_map, Option.bind_some]
@[simp] theorem maxLD_map (ns : List Int) : maxLD [.list (ns.map .int)] = (maxI ns).map .int := by
  show (intsOf (ns.map PyData.int)).bind _ = _
  rw [intsOf_map, Option.bind_some]
@[simp] theorem sumD_map (ns : List Int) : sumD [.list (ns.map .int)] = some (.int ns.sum) := by
  show (intsOf (ns.map PyData.int)).map _ = _
  rw [intsOf_map, Option.map_some]
@[simp] theorem gFrz_is (i : Nat) (g : Sls → Out) (ρ : Sls) : gFrz i g ρ = (g ρ).thn fun ρ' => .nx (frz i ρ') := by
  unfold gFrz Out.thn; cases g ρ <;> rfl
@[simp] theorem inD_tuple (x : PyData) (ds : List PyData) (h1 : flatD x = true) (h2 : ds.all flatD = true) : inD x (.tuple ds) = some (.bool (hasD x ds)) := by
  show (if flatD x = true ∧ ds.all flatD = true then _ else _) = _
  rw [if_pos ⟨h1, h2⟩]
@[simp] theorem inD_list (x : PyData) (ds : List PyData) (h1 : flatD x = true) (h2 : ds.all flatD = true) : inD x (.list ds) = some (.bool (hasD x ds)) := by
  show (if flatD x = true ∧ ds.all flatD = true then _ else _) = _
  rw [if_pos ⟨h1, h2⟩]
@[simp] theorem notInD_tuple (x : PyData) (ds : List PyData) (h1 : flatD x = true) (h2 : ds.all flatD = true) : notInD x (.tuple ds) = some (.bool (!hasD x ds)) := by
  show (if flatD x = true ∧ ds.all flatD = true then _ else _) = _
  rw [if_pos ⟨h1, h2⟩]
@[simp] theorem notInD_list (x : PyData) (ds : List PyData) (h1 : flatD x = true) (h2 : ds.all flatD = true) : notInD x (.list ds) = some (.bool (!hasD x ds)) := by
  show (if flatD x = true ∧ ds.all flatD = true then _ else _) = _
  rw [if_pos ⟨h1, h2⟩]
@[simp] theorem flat_none : flatD .none = true := nd rfl
@[simp] theorem flat_bool (b : Bool) : flatD (.bool b) = true := nd rfl
@[simp] theorem flat_int (b : Int) : flatD (.int b) = true := nd rfl
@[simp] theorem flat_str (b : Str) : flatD (.str b) = true := nd rfl
@[simp] theorem hasD_nil (x : PyData) : hasD x [] = false := nd rfl
@[simp] theorem hasD_cons (x y : PyData) (ds : List PyData) : hasD x (y :: ds) = (PyData.eqv y x || hasD x ds) := nd rfl
theorem eqv_int_int (i j : Int) : PyData.eqv (.int i) (.int j) = decide (i = j) := by simp only [PyData.eqv]; exact beq_dec i j
theorem eqv_str_str (i j : Str) : PyData.eqv (.str i) (.str j) = decide (i = j) := by simp only [PyData.eqv]; exact beq_dec i j
theorem eqv_bool_bool (i j : Bool) : PyData.eqv (.bool i) (.bool j) = decide (i = j) := by simp only [PyData.eqv]; exact beq_dec i j
def par2 (i j : Nat) (ds : List PyData) (ρ : Sls) : Out := match ds with
  | [x, y] => .nx ((ρ.set i (.val x)).set j (.val y))
  | _ => .bad
@[simp] theorem par2_is (i j : Nat) (x y : PyData) (ρ : Sls) : par2 i j [x, y] ρ = .nx ((ρ.set i (.val x)).set j (.val y)) := nd rfl
@[simp] theorem gPar_is (i j : Nat) (fs : Sls → Res (List PyData)) (ρ : Sls) : gPar i j fs ρ = (fs ρ).out (par2 i j) ρ := by
  unfold gPar
  rw [sE_is]
  rfl
theorem canLay_of {n : Nat} {d : PyData} (h : niceD n d = true) : d.canLay0 = true := (niceD_iff.mp h).2.1
/-- pairs of a number and something -/
theorem eq_pair {r r' : Int} {d d' : PyData} (h : niceD 62 d = true) (h' : niceD 62 d' = true) : eqD (.tuple [.int r, d]) (.tuple [.int r', d']) = some (.bool (decide (r = r') && PyData.eqv d d')) := by
  rw [eqD_nice (niceD_mono (nice_tuple (n := 62) (by simp [h])) (by decide)) (niceD_mono (nice_tuple (n := 62) (by simp [h'])) (by decide))]
  simp [PyData.eqv, PyData.eqvAll, beq_dec]
theorem lt_pair {r r' : Int} {d d' : PyData} (h : niceD 62 d = true) (h' : niceD 62 d' = true) : ltV (.tuple [.int r, d]) (.tuple [.int r', d']) = (if r = r' then (if PyData.eqv d d' = true then some false else lessD d d') else some (decide (r < r'))).map .bool := by
  obtain ⟨h1, h2, h3⟩ := niceD_iff.mp h
  obtain ⟨k1, k2, k3⟩ := niceD_iff.mp h'
  unfold ltV
  rw [if_pos (by simp [noDic, noDics, h1, k1, PyData.depth, PyData.depthAll]; omega)]
  simp [lessD, lessL, h2, k2, PyData.canLay0, PyData.eqv]
theorem less_int (i j : Int) : lessD (.int i) (.int j) = some (decide (i < j)) := by simp only [lessD]
theorem less_str (i j : Str) : lessD (.str i) (.str j) = some (decide (i.cps.toList < j.cps.toList)) := by simp only [lessD]
theorem less_bool (i j : Bool) : lessD (.bool i) (.bool j) = some (decide (b2i i < b2i j)) := by simp only [lessD]
theorem lt_lists {a b : List Nat} (h : ¬ a < b) (h2 : a ≠ b) : b < a := by
  by_cases h3 : b < a
  · exact h3
  · exact absurd (List.le_antisymm (List.not_lt.mp h3) (List.not_lt.mp h)) h2
/-! ### loops by what stays -/
theorem forL_inv {i : Nat} {g : Sls → Out} {P : Sls → Prop} : ∀ (ds : List PyData), (∀ d ∈ ds, ∀ ρ, P ρ → ∃ ρ2, g (ρ.set i (.val d)) = .nx ρ2 ∧ P ρ2) → ∀ ρ, P ρ → ∃ ρ', forL (bName i) g ds ρ = .nx ρ' ∧ P ρ'
  | [], _, ρ, h => ⟨ρ, rfl, h⟩
  | d :: ds, hs, ρ, h => by
    obtain ⟨ρ2, e, h2⟩ := hs d List.mem_cons_self ρ h
    obtain ⟨ρ', e', h'⟩ := forL_inv ds (fun x hx => hs x (List.mem_cons_of_mem _ hx)) ρ2 h2
    exact ⟨ρ', by rw [forL_name, e, turn_nx, e'], h'⟩
/-- with the number of turns done -/
theorem forL_invN {i : Nat} {g : Sls → Out} {P : Nat → Sls → Prop} : ∀ (ds : List PyData) (n : Nat), (∀ k d, ds[k]? = some d → ∀ ρ, P (n + k) ρ → ∃ ρ2, g (ρ.set i (.val d)) = .nx ρ2 ∧ P (n + k + 1) ρ2) → ∀ ρ, P n ρ → ∃ ρ', forL (bName i) g ds ρ = .nx ρ' ∧ P (n + ds.length) ρ'
  | [], n, _, ρ, h => ⟨ρ, rfl, h⟩
  | d :: ds, n, hs, ρ, h => by
    obtain ⟨ρ2, e, h2⟩ := hs 0 d rfl ρ h
    obtain ⟨ρ', e', h'⟩ := forL_invN ds (n + 1) (fun k x hx ρ3 h3 => by
      have := hs (k + 1) x (by simpa using hx) ρ3 (by rw [show n + (k + 1) = n + 1 + k by omega]; exact h3)
      rw [show n + (k + 1) + 1 = n + 1 + k + 1 by omega] at this
      exact this) ρ2 h2
    exact ⟨ρ', by rw [forL_name, e, turn_nx, e'], by rw [List.length_cons, show n + (ds.length + 1) = n + 1 + ds.length by omega]; exact h'⟩
theorem rangeD_at {lo : Int} {n k : Nat} {d : PyData} (h : (rangeD lo n)[k]? = some d) : d = .int (lo + k) := by
  unfold rangeD at h
  rw [List.getElem?_map] at h
  obtain ⟨j, h1, h2⟩ := Option.map_eq_some_iff.mp h
  have := (List.getElem?_eq_some_iff.mp h1).2
  rw [List.getElem_range] at this
  rw [← h2, this]
theorem cutL_nat {α : Type} (xs : List α) (a b : Nat) (h : a ≤ b) : cutL xs (some (a : Int)) (some (b : Int)) = (xs.drop a).take (b - a) := by
  unfold cutL
  rw [HT.sIx_nat, HT.sIx_nat]
  by_cases ha : a ≤ xs.length
  · rw [Nat.min_eq_left ha]
    by_cases hb : b ≤ xs.length
    · rw [Nat.min_eq_left hb]
    · rw [Nat.min_eq_right (by omega), List.take_of_length_le (by rw [List.length_drop]; omega), List.take_of_length_le (by rw [List.length_drop]; omega)]
  · rw [Nat.min_eq_right (a := a) (by omega), List.drop_eq_nil_of_le (Nat.le_refl _), List.drop_eq_nil_of_le (by omega), List.take_nil, List.take_nil]
theorem cut_ints (xs : List Int) (a b : Nat) (h : a ≤ b) : cutL (xs.map PyData.int) (some (a : Int)) (some (b : Int)) = ((xs.drop a).take (b - a)).map .int := by
  rw [cutL_nat _ _ _ h, List.map_take, List.map_drop]
@[simp] theorem findD_str (x y : Str) : findD (.str x) [.str y] = some (.int (Txt.find x y)) := nd rfl
@[simp] theorem upperD_str (x : Str) : upperD (.str x) [] = if x.length ≤ 5592405 then some (.str (Txt.upper x)) else none := nd rfl
@[simp] theorem lowerD_str (x : Str) : lowerD (.str x) [] = if x.length ≤ 5592405 then some (.str (Txt.lower x)) else none := nd rfl
@[simp] theorem startsD_str (x y : Str) : startsD (.str x) [.str y] = some (.bool (Txt.startswith x y)) := nd rfl
/-! upper and lower of plain texts -/
def upC (c : Nat) : Nat := if 97 ≤ c ∧ c ≤ 122 then c - 32 else c
def loC (c : Nat) : Nat := if 65 ≤ c ∧ c ≤ 90 then c + 32 else c
theorem upperOf_small : ((List.range 127).all fun c => decide (Unicode.upperOf c = [upC c])) = true := by decide +kernel
theorem lowerOf_small : ((List.range 127).all fun c => decide (Unicode.lowerOf c = [loC c])) = true := by decide +kernel
theorem placed_one {l : List Nat} {f : Nat → Nat → List Nat} {g : Nat → Nat} (h : ∀ i c, l[i]? = some c → f i c = [g c]) : placed (tx l) f = (l.map g).toArray := by
  have e1 : l.mapIdx (fun i c => (f i c).toArray) = l.map fun c => #[g c] := by
    refine List.ext_getElem? fun i => ?_
    rw [List.getElem?_mapIdx, List.getElem?_map]
    cases q : l[i]? with
    | none => rfl
    | some c => simp [h i c q]
  have e2 : (tx l).cps.mapIdx (fun i c => (f i c).toArray) = (l.map fun c => #[g c]).toArray := by
    rw [← e1]
    show l.toArray.mapIdx _ = _
    simp
  have e3 : ∀ l : List Nat, (l.map fun c => (#[g c] : Array Nat)).toArray.flatten = (l.map g).toArray := fun l => by
    apply Array.ext'
    rw [Array.toList_flatten]
    induction l with
    | nil => rfl
    | cons c l ih => simpa using ih
  unfold placed
  rw [e2, e3]
theorem upper_tx {l : List Nat} (h : ∀ c ∈ l, c < 127) : Txt.upper (tx l) = tx (l.map upC) := by
  unfold Txt.upper
  have e := placed_one (l := l) (f := fun _ c => Unicode.upperOf c) (g := upC) fun i c hc => by
    have := List.all_eq_true.mp upperOf_small c (List.mem_range.mpr (h c (List.mem_of_getElem? hc)))
    exact of_decide_eq_true this
  rw [e]
  rfl
theorem lower_tx {l : List Nat} (h : ∀ c ∈ l, c < 127) : Txt.lower (tx l) = tx (l.map loC) := by
  unfold Txt.lower
  have e := placed_one (l := l) (f := fun i _ => Unicode.lowerAt (tx l).cps i) (g := loC) fun i c hc => by
    have hlt := h c (List.mem_of_getElem? hc)
    have := List.all_eq_true.mp lowerOf_small c (List.mem_range.mpr hlt)
    have hg : (tx l).cps[i]? = some c := by show l.toArray[i]? = _; simpa using hc
    show Unicode.lowerAt (tx l).cps i = _
    unfold Unicode.lowerAt
    rw [hg]
    have hne : (c == 0x3A3) = false := by
      rw [beq_eq_false_iff_ne]
      omega
    simp only [hne, Bool.false_and]
    exact of_decide_eq_true this
  rw [e]
  rfl
/-- a method of a text -/
def onStr (r : Res PyData) (k : Str → Res PyData) : Res PyData := r >>= fun x => match x with
  | .str z => k z
  | _ => .bad
@[simp] theorem onStr_str (z : Str) (k : Str → Res PyData) : onStr (.ok (.str z)) k = k z := nd rfl
theorem dM_is (o : PyData → List PyData → Option PyData) (f : Sls → Res PyData) (fs : Sls → Res (List PyData)) (ρ : Sls) : dM o f fs ρ = onStr (f ρ) fun z => fs ρ >>= fun xs => ofO (o (.str z) xs) := by
  unfold dM onStr
  rfl
/-! a sign, so many times -/
@[simp] theorem mulVD_int (i j : Int) : mulVD (.int i) (.int j) = mulD (.int i) (.int j) := nd rfl
theorem mul_one_tx (c n : Nat) : Txt.mul (tx [c]) (n : Int) = tx (List.replicate n c) := by
  have go : ∀ (m : Nat) (acc : List Nat), (List.replicate m (tx [c]).cps).foldl (· ++ ·) acc.toArray = (acc ++ List.replicate m c).toArray := fun m => by
    induction m with
    | zero => intro acc; simp
    | succ m ih =>
      intro acc
      rw [List.replicate_succ, List.foldl_cons]
      have : acc.toArray ++ (tx [c]).cps = (acc ++ [c]).toArray := by show acc.toArray ++ [c].toArray = _; simp
      rw [this, ih, List.replicate_succ, List.append_assoc]
      rfl
  unfold Txt.mul
  by_cases h0 : n = 0
  · subst h0; rfl
  · rw [if_neg (by omega)]
    by_cases h1 : n = 1
    · subst h1; rfl
    · have hne : ((n : Int) == 1 || (tx [c]).length == 0) = false := by
        rw [tx_len]
        simp
        omega
      rw [hne, if_neg (by decide), Int.toNat_natCast]
      have := go n []
      show (⟨_⟩ : Str) = ⟨_⟩
      rw [show (#[] : Array Nat) = ([] : List Nat).toArray from rfl, this]
      rfl
@[simp] theorem mulVD_tx (c n : Nat) (h : n ≤ 1000) : mulVD (.str (tx [c])) (.int (n : Int)) = some (.str (tx (List.replicate n c))) := by
  show (if 0 ≤ (n : Int) ∧ (n : Int) ≤ 1000 ∧ (tx [c]).length = 1 then some (PyData.str (Txt.mul (tx [c]) n)) else none) = _
  rw [if_pos ⟨by omega, by omega, by rw [tx_len]; rfl⟩, mul_one_tx]
@[simp] theorem dBrw_is (i : Nat) (f : Sls → Res PyData) (ρ : Sls) : dBrw i f ρ = flatR (f (frz i ρ)) := nd rfl
@[simp] theorem tBrw_is (i : Nat) (f : Sls → Res Bool) (ρ : Sls) : tBrw i f ρ = boolR (f (frz i ρ)) := nd rfl
@[simp] theorem flatR_none : flatR (.ok .none) = .ok .none := nd rfl
@[simp] theorem flatR_bool (b : Bool) : flatR (.ok (.bool b)) = .ok (.bool b) := nd rfl
@[simp] theorem flatR_int (b : Int) : flatR (.ok (.int b)) = .ok (.int b) := nd rfl
@[simp] theorem flatR_str (b : Str) : flatR (.ok (.str b)) = .ok (.str b) := nd rfl
@[simp] theorem boolR_ok (b : Bool) : boolR (.ok b) = .ok b := nd rfl
/-! x op= e -/
@[simp] theorem gAug_is (i : Nat) (g : PyData → PyData → Option PyData) (f : Sls → Res PyData) (ρ : Sls) {x : PyData} (h : ρ[i]? = some (.val x)) : gAug i g f ρ = (f ρ).out (fun y ρ => match g x y with | some z => .nx (ρ.set i (.val z)) | none => .bad) ρ := by
  unfold gAug
  rw [h]
  exact sE_is ..
@[simp] theorem iaddD_int (i j : Int) : iaddD (.int i) (.int j) = some (.int (i + j)) := nd rfl
end DL

namespace DL.Wk
open PySem PySem.Spec PyProof.Rows L2 DL
def topS (i : Nat) : Stmt := PySem.Challenge.pw_peristyle_k08_like.main.body.getD i (.Pass ⟨0, 0, 0, 0⟩)
/-! matches(text, pattern): 0 text 1 pattern 2 at 3 here 4 star 5 mark -/
abbrev s_matches : Stmt := topS 1
abbrev n_matches : List Str := ["text", "pattern", "at", "here", "star", "mark"]
theorem sc_matches : FnScope n_matches ["text", "pattern"] (defScope s_matches) := ⟨rfl, rfl, rfl, by decide +kernel, rfl, by decide +kernel, by decide +kernel⟩
theorem nd_matches : List.Nodup n_matches := sc_matches.nd
/-! fault(code): 0 code -/
abbrev s_fault : Stmt := topS 5
abbrev n_fault : List Str := ["code"]
theorem sc_fault : FnScope n_fault ["code"] (defScope s_fault) := ⟨rfl, rfl, rfl, by decide +kernel, rfl, by decide +kernel, by decide +kernel⟩
theorem nd_fault : List.Nodup n_fault := sc_fault.nd
/-! is_fault(x): 0 x -/
abbrev s_is_fault : Stmt := topS 6
abbrev n_is_fault : List Str := ["x"]
theorem sc_is_fault : FnScope n_is_fault ["x"] (defScope s_is_fault) := ⟨rfl, rfl, rfl, by decide +kernel, rfl, by decide +kernel, by decide +kernel⟩
theorem nd_is_fault : List.Nodup n_is_fault := sc_is_fault.nd
/-! least_fault(xs): 0 xs 1 codes 2 x -/
abbrev s_least_fault : Stmt := topS 7
abbrev n_least_fault : List Str := ["xs", "codes", "x"]
theorem sc_least_fault : FnScope n_least_fault ["xs"] (defScope s_least_fault) := ⟨rfl, rfl, rfl, by decide +kernel, rfl, by decide +kernel, by decide +kernel⟩
theorem nd_least_fault : List.Nodup n_least_fault := sc_least_fault.nd
/-! value_key(value): 0 value -/
abbrev s_value_key : Stmt := topS 8
abbrev n_value_key : List Str := ["value"]
theorem sc_value_key : FnScope n_value_key ["value"] (defScope s_value_key) := ⟨rfl, rfl, rfl, by decide +kernel, rfl, by decide +kernel, by decide +kernel⟩
theorem nd_value_key : List.Nodup n_value_key := sc_value_key.nd
/-! order(a, b): 0 a 1 b 2 one 3 other -/
abbrev s_order : Stmt := topS 9
abbrev n_order : List Str := ["a", "b", "one", "other"]
theorem sc_order : FnScope n_order ["a", "b"] (defScope s_order) := ⟨rfl, rfl, rfl, by decide +kernel, rfl, by decide +kernel, by decide +kernel⟩
theorem nd_order : List.Nodup n_order := sc_order.nd
/-! takes_pair(name): 0 name -/
abbrev s_takes_pair : Stmt := topS 18
abbrev n_takes_pair : List Str := ["name"]
theorem sc_takes_pair : FnScope n_takes_pair ["name"] (defScope s_takes_pair) := ⟨rfl, rfl, rfl, by decide +kernel, rfl, by decide +kernel, by decide +kernel⟩
theorem nd_takes_pair : List.Nodup n_takes_pair := sc_takes_pair.nd
/-! is_strict(name): 0 name -/
abbrev s_is_strict : Stmt := topS 19
abbrev n_is_strict : List Str := ["name"]
theorem sc_is_strict : FnScope n_is_strict ["name"] (defScope s_is_strict) := ⟨rfl, rfl, rfl, by decide +kernel, rfl, by decide +kernel, by decide +kernel⟩
theorem nd_is_strict : List.Nodup n_is_strict := sc_is_strict.nd
/-! whole(n): 0 n -/
abbrev s_whole : Stmt := topS 20
abbrev n_whole : List Str := ["n"]
theorem sc_whole : FnScope n_whole ["n"] (defScope s_whole) := ⟨rfl, rfl, rfl, by decide +kernel, rfl, by decide +kernel, by decide +kernel⟩
theorem nd_whole : List.Nodup n_whole := sc_whole.nd
/-! add(a, b): 0 a 1 b -/
abbrev s_add : Stmt := topS 21
abbrev n_add : List Str := ["a", "b"]
theorem sc_add : FnScope n_add ["a", "b"] (defScope s_add) := ⟨rfl, rfl, rfl, by decide +kernel, rfl, by decide +kernel, by decide +kernel⟩
theorem nd_add : List.Nodup n_add := sc_add.nd
/-! subtract(a, b): 0 a 1 b -/
abbrev s_subtract : Stmt := topS 22
abbrev n_subtract : List Str := ["a", "b"]
theorem sc_subtract : FnScope n_subtract ["a", "b"] (defScope s_subtract) := ⟨rfl, rfl, rfl, by decide +kernel, rfl, by decide +kernel, by decide +kernel⟩
theorem nd_subtract : List.Nodup n_subtract := sc_subtract.nd
/-! multiply(a, b): 0 a 1 b -/
abbrev s_multiply : Stmt := topS 23
abbrev n_multiply : List Str := ["a", "b"]
theorem sc_multiply : FnScope n_multiply ["a", "b"] (defScope s_multiply) := ⟨rfl, rfl, rfl, by decide +kernel, rfl, by decide +kernel, by decide +kernel⟩
theorem nd_multiply : List.Nodup n_multiply := sc_multiply.nd
/-! divide(a, b): 0 a 1 b -/
abbrev s_divide : Stmt := topS 24
abbrev n_divide : List Str := ["a", "b"]
theorem sc_divide : FnScope n_divide ["a", "b"] (defScope s_divide) := ⟨rfl, rfl, rfl, by decide +kernel, rfl, by decide +kernel, by decide +kernel⟩
theorem nd_divide : List.Nodup n_divide := sc_divide.nd
/-! remainder(a, b): 0 a 1 b -/
abbrev s_remainder : Stmt := topS 25
abbrev n_remainder : List Str := ["a", "b"]
theorem sc_remainder : FnScope n_remainder ["a", "b"] (defScope s_remainder) := ⟨rfl, rfl, rfl, by decide +kernel, rfl, by decide +kernel, by decide +kernel⟩
theorem nd_remainder : List.Nodup n_remainder := sc_remainder.nd
/-! join_texts(a, b): 0 a 1 b -/
abbrev s_join_texts : Stmt := topS 26
abbrev n_join_texts : List Str := ["a", "b"]
theorem sc_join_texts : FnScope n_join_texts ["a", "b"] (defScope s_join_texts) := ⟨rfl, rfl, rfl, by decide +kernel, rfl, by decide +kernel, by decide +kernel⟩
theorem nd_join_texts : List.Nodup n_join_texts := sc_join_texts.nd
/-! part(text, first, many): 0 text 1 first 2 many 3 low 4 high -/
abbrev s_part : Stmt := topS 27
abbrev n_part : List Str := ["text", "first", "many", "low", "high"]
theorem sc_part : FnScope n_part ["text", "first", "many"] (defScope s_part) := ⟨rfl, rfl, rfl, by decide +kernel, rfl, by decide +kernel, by decide +kernel⟩
theorem nd_part : List.Nodup n_part := sc_part.nd
/-! read_number(text): 0 text 1 figures 2 sign -/
abbrev s_read_number : Stmt := topS 28
abbrev n_read_number : List Str := ["text", "figures", "sign"]
theorem sc_read_number : FnScope n_read_number ["text"] (defScope s_read_number) := ⟨rfl, rfl, rfl, by decide +kernel, rfl, by decide +kernel, by decide +kernel⟩
theorem nd_read_number : List.Nodup n_read_number := sc_read_number.nd
/-! compared(name, a, b): 0 name 1 a 2 b 3 found -/
abbrev s_compared : Stmt := topS 29
abbrev n_compared : List Str := ["name", "a", "b", "found"]
theorem sc_compared : FnScope n_compared ["name", "a", "b"] (defScope s_compared) := ⟨rfl, rfl, rfl, by decide +kernel, rfl, by decide +kernel, by decide +kernel⟩
theorem nd_compared : List.Nodup n_compared := sc_compared.nd
/-! one_text(name, text): 0 name 1 text -/
abbrev s_one_text : Stmt := topS 30
abbrev n_one_text : List Str := ["name", "text"]
theorem sc_one_text : FnScope n_one_text ["name", "text"] (defScope s_one_text) := ⟨rfl, rfl, rfl, by decide +kernel, rfl, by decide +kernel, by decide +kernel⟩
theorem nd_one_text : List.Nodup n_one_text := sc_one_text.nd
/-! one_argument(name, a): 0 name 1 a -/
abbrev s_one_argument : Stmt := topS 31
abbrev n_one_argument : List Str := ["name", "a"]
theorem sc_one_argument : FnScope n_one_argument ["name", "a"] (defScope s_one_argument) := ⟨rfl, rfl, rfl, by decide +kernel, rfl, by decide +kernel, by decide +kernel⟩
theorem nd_one_argument : List.Nodup n_one_argument := sc_one_argument.nd
/-! strict(name, args): 0 name 1 args 2 a 3 b 4 action -/
abbrev s_strict : Stmt := topS 33
abbrev n_strict : List Str := ["name", "args", "a", "b", "action"]
theorem sc_strict : FnScope n_strict ["name", "args"] (defScope s_strict) := ⟨rfl, rfl, rfl, by decide +kernel, rfl, by decide +kernel, by decide +kernel⟩
theorem nd_strict : List.Nodup n_strict := sc_strict.nd
/-! decided(args, worth): 0 args 1 worth 2 arg 3 found -/
abbrev s_decided : Stmt := topS 34
abbrev n_decided : List Str := ["args", "worth", "arg", "found"]
theorem sc_decided : FnScope n_decided ["args", "worth"] (defScope s_decided) := ⟨rfl, rfl, rfl, by decide +kernel, rfl, by decide +kernel, by decide +kernel⟩
theorem nd_decided : List.Nodup n_decided := sc_decided.nd
/-! same(a, b): 0 a 1 b 2 found -/
abbrev s_same : Stmt := topS 35
abbrev n_same : List Str := ["a", "b", "found"]
theorem sc_same : FnScope n_same ["a", "b"] (defScope s_same) := ⟨rfl, rfl, rfl, by decide +kernel, rfl, by decide +kernel, by decide +kernel⟩
theorem nd_same : List.Nodup n_same := sc_same.nd
/-! nullif(a, b): 0 a 1 b -/
abbrev s_nullif : Stmt := topS 36
abbrev n_nullif : List Str := ["a", "b"]
theorem sc_nullif : FnScope n_nullif ["a", "b"] (defScope s_nullif) := ⟨rfl, rfl, rfl, by decide +kernel, rfl, by decide +kernel, by decide +kernel⟩
theorem nd_nullif : List.Nodup n_nullif := sc_nullif.nd
/-! loose(name, args): 0 name 1 args -/
abbrev s_loose : Stmt := topS 37
abbrev n_loose : List Str := ["name", "args"]
theorem sc_loose : FnScope n_loose ["name", "args"] (defScope s_loose) := ⟨rfl, rfl, rfl, by decide +kernel, rfl, by decide +kernel, by decide +kernel⟩
theorem nd_loose : List.Nodup n_loose := sc_loose.nd
/-! worked(name, args): 0 name 1 args 2 arg 3 found -/
abbrev s_worked : Stmt := topS 38
abbrev n_worked : List Str := ["name", "args", "arg", "found"]
theorem sc_worked : FnScope n_worked ["name", "args"] (defScope s_worked) := ⟨rfl, rfl, rfl, by decide +kernel, rfl, by decide +kernel, by decide +kernel⟩
theorem nd_worked : List.Nodup n_worked := sc_worked.nd
/-! _law_cell(script, k): 0 script 1 k -/
abbrev s_law_cell : Stmt := topS 40
abbrev n_law_cell : List Str := ["script", "k"]
theorem sc_law_cell : FnScope n_law_cell ["script", "k"] (defScope s_law_cell) := ⟨rfl, rfl, rfl, by decide +kernel, rfl, by decide +kernel, by decide +kernel⟩
theorem nd_law_cell : List.Nodup n_law_cell := sc_law_cell.nd
/-! _law_mixed(cell, k): 0 cell 1 k 2 x -/
abbrev s_law_mixed : Stmt := topS 41
abbrev n_law_mixed : List Str := ["cell", "k", "x"]
theorem sc_law_mixed : FnScope n_law_mixed ["cell", "k"] (defScope s_law_mixed) := ⟨rfl, rfl, rfl, by decide +kernel, rfl, by decide +kernel, by decide +kernel⟩
theorem nd_law_mixed : List.Nodup n_law_mixed := sc_law_mixed.nd
/-! _law_draws(cell, many): 0 cell 1 many 2 draws 3 rest 4 large 5 k -/
abbrev s_law_draws : Stmt := topS 42
abbrev n_law_draws : List Str := ["cell", "many", "draws", "rest", "large", "k"]
theorem sc_law_draws : FnScope n_law_draws ["cell", "many"] (defScope s_law_draws) := ⟨rfl, rfl, rfl, by decide +kernel, rfl, by decide +kernel, by decide +kernel⟩
theorem nd_law_draws : List.Nodup n_law_draws := sc_law_draws.nd
/-! _law_signs(): 0 signs -/
abbrev s_law_signs : Stmt := topS 43
abbrev n_law_signs : List Str := ["signs"]
theorem sc_law_signs : FnScope n_law_signs [] (defScope s_law_signs) := ⟨rfl, rfl, rfl, by decide +kernel, rfl, by decide +kernel, by decide +kernel⟩
theorem nd_law_signs : List.Nodup n_law_signs := sc_law_signs.nd
/-! _law_is(actual, due): 0 actual 1 due -/
abbrev s_law_is : Stmt := topS 45
abbrev n_law_is : List Str := ["actual", "due"]
theorem sc_law_is : FnScope n_law_is ["actual", "due"] (defScope s_law_is) := ⟨rfl, rfl, rfl, by decide +kernel, rfl, by decide +kernel, by decide +kernel⟩
theorem nd_law_is : List.Nodup n_law_is := sc_law_is.nd
/-! _law_strict(args): 0 args 1 codes 2 x -/
abbrev s_law_strict : Stmt := topS 46
abbrev n_law_strict : List Str := ["args", "codes", "x"]
theorem sc_law_strict : FnScope n_law_strict ["args"] (defScope s_law_strict) := ⟨rfl, rfl, rfl, by decide +kernel, rfl, by decide +kernel, by decide +kernel⟩
theorem nd_law_strict : List.Nodup n_law_strict := sc_law_strict.nd
/-! _law_arg(x, draw): 0 x 1 draw -/
abbrev s_law_arg : Stmt := topS 47
abbrev n_law_arg : List Str := ["x", "draw"]
theorem sc_law_arg : FnScope n_law_arg ["x", "draw"] (defScope s_law_arg) := ⟨rfl, rfl, rfl, by decide +kernel, rfl, by decide +kernel, by decide +kernel⟩
theorem nd_law_arg : List.Nodup n_law_arg := sc_law_arg.nd
/-! _law_fits(text, pattern): 0 text 1 pattern 2 row 3 sign 4 mark 5 after 6 k -/
abbrev s_law_fits : Stmt := topS 48
abbrev n_law_fits : List Str := ["text", "pattern", "row", "sign", "mark", "after", "k"]
theorem sc_law_fits : FnScope n_law_fits ["text", "pattern"] (defScope s_law_fits) := ⟨rfl, rfl, rfl, by decide +kernel, rfl, by decide +kernel, by decide +kernel⟩
theorem nd_law_fits : List.Nodup n_law_fits := sc_law_fits.nd
/-! _law_pattern(draws, size): 0 draws 1 size 2 signs 3 out 4 k -/
abbrev s_law_pattern : Stmt := topS 49
abbrev n_law_pattern : List Str := ["draws", "size", "signs", "out", "k"]
theorem sc_law_pattern : FnScope n_law_pattern ["draws", "size"] (defScope s_law_pattern) := ⟨rfl, rfl, rfl, by decide +kernel, rfl, by decide +kernel, by decide +kernel⟩
theorem nd_law_pattern : List.Nodup n_law_pattern := sc_law_pattern.nd
/-! _law_filled(draws, pattern): 0 draws 1 pattern 2 signs 3 out 4 k 5 draw 6 j -/
abbrev s_law_filled : Stmt := topS 50
abbrev n_law_filled : List Str := ["draws", "pattern", "signs", "out", "k", "draw", "j"]
theorem sc_law_filled : FnScope n_law_filled ["draws", "pattern"] (defScope s_law_filled) := ⟨rfl, rfl, rfl, by decide +kernel, rfl, by decide +kernel, by decide +kernel⟩
theorem nd_law_filled : List.Nodup n_law_filled := sc_law_filled.nd
/-! _law_spoilt(draws, text): 0 draws 1 text 2 at 3 sign 4 way -/
abbrev s_law_spoilt : Stmt := topS 51
abbrev n_law_spoilt : List Str := ["draws", "text", "at", "sign", "way"]
theorem sc_law_spoilt : FnScope n_law_spoilt ["draws", "text"] (defScope s_law_spoilt) := ⟨rfl, rfl, rfl, by decide +kernel, rfl, by decide +kernel, by decide +kernel⟩
theorem nd_law_spoilt : List.Nodup n_law_spoilt := sc_law_spoilt.nd
/-! law(script): 0 script 1 k 2 draws 3 size 4 pattern 5 text 6 args 7 told 8 due -/
abbrev s_law : Stmt := topS 52
abbrev n_law : List Str := ["script", "k", "draws", "size", "pattern", "text", "args", "told", "due"]
theorem sc_law : FnScope n_law ["script"] (defScope s_law) := ⟨rfl, rfl, rfl, by decide +kernel, rfl, by decide +kernel, by decide +kernel⟩
theorem nd_law : List.Nodup n_law := sc_law.nd
def k_CHOOSING : PyData := (.tuple [(.str (Str.ofString "coalesce")), (.str (Str.ofString "nullif")), (.str (Str.ofString "most")), (.str (Str.ofString "least"))])
def k_COMPARING : PyData := (.tuple [(.str (Str.ofString "eq")), (.str (Str.ofString "ne")), (.str (Str.ofString "lt")), (.str (Str.ofString "le")), (.str (Str.ofString "gt")), (.str (Str.ofString "ge")), (.str (Str.ofString "same"))])
def t_FIXED : List (Str × PyData) := [((Str.ofString "add"), (.tuple [(.tuple [(.str (Str.ofString "int")), (.str (Str.ofString "int"))]), (.str (Str.ofString "int"))])), ((Str.ofString "sub"), (.tuple [(.tuple [(.str (Str.ofString "int")), (.str (Str.ofString "int"))]), (.str (Str.ofString "int"))])), ((Str.ofString "mul"), (.tuple [(.tuple [(.str (Str.ofString "int")), (.str (Str.ofString "int"))]), (.str (Str.ofString "int"))])), ((Str.ofString "div"), (.tuple [(.tuple [(.str (Str.ofString "int")), (.str (Str.ofString "int"))]), (.str (Str.ofString "int"))])), ((Str.ofString "mod"), (.tuple [(.tuple [(.str (Str.ofString "int")), (.str (Str.ofString "int"))]), (.str (Str.ofString "int"))])), ((Str.ofString "neg"), (.tuple [(.tuple [(.str (Str.ofString "int"))]), (.str (Str.ofString "int"))])), ((Str.ofString "abs"), (.tuple [(.tuple [(.str (Str.ofString "int"))]), (.str (Str.ofString "int"))])), ((Str.ofString "cat"), (.tuple [(.tuple [(.str (Str.ofString "text")), (.str (Str.ofString "text"))]), (.str (Str.ofString "text"))])), ((Str.ofString "size"), (.tuple [(.tuple [(.str (Str.ofString "text"))]), (.str (Str.ofString "int"))])), ((Str.ofString "upper"), (.tuple [(.tuple [(.str (Str.ofString "text"))]), (.str (Str.ofString "text"))])), ((Str.ofString "lower"), (.tuple [(.tuple [(.str (Str.ofString "text"))]), (.str (Str.ofString "text"))])), ((Str.ofString "part"), (.tuple [(.tuple [(.str (Str.ofString "text")), (.str (Str.ofString "int")), (.str (Str.ofString "int"))]), (.str (Str.ofString "text"))])), ((Str.ofString "like"), (.tuple [(.tuple [(.str (Str.ofString "text")), (.str (Str.ofString "text"))]), (.str (Str.ofString "bool"))])), ((Str.ofString "number"), (.tuple [(.tuple [(.str (Str.ofString "text"))]), (.str (Str.ofString "int"))])), ((Str.ofString "words"), (.tuple [(.tuple [(.str (Str.ofString "int"))]), (.str (Str.ofString "text"))])), ((Str.ofString "not"), (.tuple [(.tuple [(.str (Str.ofString "bool"))]), (.str (Str.ofString "bool"))])), ((Str.ofString "and"), (.tuple [(.tuple [(.str (Str.ofString "bool")), (.str (Str.ofString "bool"))]), (.str (Str.ofString "bool"))])), ((Str.ofString "or"), (.tuple [(.tuple [(.str (Str.ofString "bool")), (.str (Str.ofString "bool"))]), (.str (Str.ofString "bool"))]))]
def k_LOOSE : PyData := (.tuple [(.str (Str.ofString "and")), (.str (Str.ofString "or")), (.str (Str.ofString "isnull")), (.str (Str.ofString "same")), (.str (Str.ofString "coalesce")), (.str (Str.ofString "nullif"))])
structure Tx (w : World) (K : PySem.W.Frag) (mg : Str → Option Value) where
  a_matches : Addr
  d_matches : FuncData
  F_matches : Fun K "matches" "matches" s_matches a_matches d_matches
  g_matches : mg "matches" = some (.ref a_matches)
  b_matches : Binds K d_matches ["text", "pattern"] []
  a_fault : Addr
  d_fault : FuncData
  F_fault : Fun K "fault" "fault" s_fault a_fault d_fault
  g_fault : mg "fault" = some (.ref a_fault)
  b_fault : Binds K d_fault ["code"] []
  a_is_fault : Addr
  d_is_fault : FuncData
  F_is_fault : Fun K "is_fault" "is_fault" s_is_fault a_is_fault d_is_fault
  g_is_fault : mg "is_fault" = some (.ref a_is_fault)
  b_is_fault : Binds K d_is_fault ["x"] []
  a_least_fault : Addr
  d_least_fault : FuncData
  F_least_fault : Fun K "least_fault" "least_fault" s_least_fault a_least_fault d_least_fault
  g_least_fault : mg "least_fault" = some (.ref a_least_fault)
  b_least_fault : Binds K d_least_fault ["xs"] []
  a_value_key : Addr
  d_value_key : FuncData
  F_value_key : Fun K "value_key" "value_key" s_value_key a_value_key d_value_key
  g_value_key : mg "value_key" = some (.ref a_value_key)
  b_value_key : Binds K d_value_key ["value"] []
  a_order : Addr
  d_order : FuncData
  F_order : Fun K "order" "order" s_order a_order d_order
  g_order : mg "order" = some (.ref a_order)
  b_order : Binds K d_order ["a", "b"] []
  a_takes_pair : Addr
  d_takes_pair : FuncData
  F_takes_pair : Fun K "takes_pair" "takes_pair" s_takes_pair a_takes_pair d_takes_pair
  g_takes_pair : mg "takes_pair" = some (.ref a_takes_pair)
  b_takes_pair : Binds K d_takes_pair ["name"] []
  a_is_strict : Addr
  d_is_strict : FuncData
  F_is_strict : Fun K "is_strict" "is_strict" s_is_strict a_is_strict d_is_strict
  g_is_strict : mg "is_strict" = some (.ref a_is_strict)
  b_is_strict : Binds K d_is_strict ["name"] []
  a_whole : Addr
  d_whole : FuncData
  F_whole : Fun K "whole" "whole" s_whole a_whole d_whole
  g_whole : mg "whole" = some (.ref a_whole)
  b_whole : Binds K d_whole ["n"] []
  a_add : Addr
  d_add : FuncData
  F_add : Fun K "add" "add" s_add a_add d_add
  g_add : mg "add" = some (.ref a_add)
  b_add : Binds K d_add ["a", "b"] []
  a_subtract : Addr
  d_subtract : FuncData
  F_subtract : Fun K "subtract" "subtract" s_subtract a_subtract d_subtract
  g_subtract : mg "subtract" = some (.ref a_subtract)
  b_subtract : Binds K d_subtract ["a", "b"] []
  a_multiply : Addr
  d_multiply : FuncData
  F_multiply : Fun K "multiply" "multiply" s_multiply a_multiply d_multiply
  g_multiply : mg "multiply" = some (.ref a_multiply)
  b_multiply : Binds K d_multiply ["a", "b"] []
  a_divide : Addr
  d_divide : FuncData
  F_divide : Fun K "divide" "divide" s_divide a_divide d_divide
  g_divide : mg "divide" = some (.ref a_divide)
  b_divide : Binds K d_divide ["a", "b"] []
  a_remainder : Addr
  d_remainder : FuncData
  F_remainder : Fun K "remainder" "remainder" s_remainder a_remainder d_remainder
  g_remainder : mg "remainder" = some (.ref a_remainder)
  b_remainder : Binds K d_remainder ["a", "b"] []
  a_join_texts : Addr
  d_join_texts : FuncData
  F_join_texts : Fun K "join_texts" "join_texts" s_join_texts a_join_texts d_join_texts
  g_join_texts : mg "join_texts" = some (.ref a_join_texts)
  b_join_texts : Binds K d_join_texts ["a", "b"] []
  a_part : Addr
  d_part : FuncData
  F_part : Fun K "part" "part" s_part a_part d_part
  g_part : mg "part" = some (.ref a_part)
  b_part : Binds K d_part ["text", "first", "many"] []
  a_read_number : Addr
  d_read_number : FuncData
  F_read_number : Fun K "read_number" "read_number" s_read_number a_read_number d_read_number
  g_read_number : mg "read_number" = some (.ref a_read_number)
  b_read_number : Binds K d_read_number ["text"] []
  a_compared : Addr
  d_compared : FuncData
  F_compared : Fun K "compared" "compared" s_compared a_compared d_compared
  g_compared : mg "compared" = some (.ref a_compared)
  b_compared : Binds K d_compared ["name", "a", "b"] []
  a_one_text : Addr
  d_one_text : FuncData
  F_one_text : Fun K "one_text" "one_text" s_one_text a_one_text d_one_text
  g_one_text : mg "one_text" = some (.ref a_one_text)
  b_one_text : Binds K d_one_text ["name", "text"] []
  a_one_argument : Addr
  d_one_argument : FuncData
  F_one_argument : Fun K "one_argument" "one_argument" s_one_argument a_one_argument d_one_argument
  g_one_argument : mg "one_argument" = some (.ref a_one_argument)
  b_one_argument : Binds K d_one_argument ["name", "a"] []
  a_strict : Addr
  d_strict : FuncData
  F_strict : Fun K "strict" "strict" s_strict a_strict d_strict
  g_strict : mg "strict" = some (.ref a_strict)
  b_strict : Binds K d_strict ["name", "args"] []
  a_decided : Addr
  d_decided : FuncData
  F_decided : Fun K "decided" "decided" s_decided a_decided d_decided
  g_decided : mg "decided" = some (.ref a_decided)
  b_decided : Binds K d_decided ["args", "worth"] []
  a_same : Addr
  d_same : FuncData
  F_same : Fun K "same" "same" s_same a_same d_same
  g_same : mg "same" = some (.ref a_same)
  b_same : Binds K d_same ["a", "b"] []
  a_nullif : Addr
  d_nullif : FuncData
  F_nullif : Fun K "nullif" "nullif" s_nullif a_nullif d_nullif
  g_nullif : mg "nullif" = some (.ref a_nullif)
  b_nullif : Binds K d_nullif ["a", "b"] []
  a_loose : Addr
  d_loose : FuncData
  F_loose : Fun K "loose" "loose" s_loose a_loose d_loose
  g_loose : mg "loose" = some (.ref a_loose)
  b_loose : Binds K d_loose ["name", "args"] []
  a_worked : Addr
  d_worked : FuncData
  F_worked : Fun K "worked" "worked" s_worked a_worked d_worked
  g_worked : mg "worked" = some (.ref a_worked)
  b_worked : Binds K d_worked ["name", "args"] []
  a_law_cell : Addr
  d_law_cell : FuncData
  F_law_cell : Fun K "_law_cell" "_law_cell" s_law_cell a_law_cell d_law_cell
  g_law_cell : mg "_law_cell" = some (.ref a_law_cell)
  b_law_cell : Binds K d_law_cell ["script", "k"] []
  a_law_mixed : Addr
  d_law_mixed : FuncData
  F_law_mixed : Fun K "_law_mixed" "_law_mixed" s_law_mixed a_law_mixed d_law_mixed
  g_law_mixed : mg "_law_mixed" = some (.ref a_law_mixed)
  b_law_mixed : Binds K d_law_mixed ["cell", "k"] []
  a_law_draws : Addr
  d_law_draws : FuncData
  F_law_draws : Fun K "_law_draws" "_law_draws" s_law_draws a_law_draws d_law_draws
  g_law_draws : mg "_law_draws" = some (.ref a_law_draws)
  b_law_draws : Binds K d_law_draws ["cell", "many"] []
  a_law_signs : Addr
  d_law_signs : FuncData
  F_law_signs : Fun K "_law_signs" "_law_signs" s_law_signs a_law_signs d_law_signs
  g_law_signs : mg "_law_signs" = some (.ref a_law_signs)
  b_law_signs : Binds K d_law_signs [] []
  a_law_is : Addr
  d_law_is : FuncData
  F_law_is : Fun K "_law_is" "_law_is" s_law_is a_law_is d_law_is
  g_law_is : mg "_law_is" = some (.ref a_law_is)
  b_law_is : Binds K d_law_is ["actual", "due"] []
  a_law_strict : Addr
  d_law_strict : FuncData
  F_law_strict : Fun K "_law_strict" "_law_strict" s_law_strict a_law_strict d_law_strict
  g_law_strict : mg "_law_strict" = some (.ref a_law_strict)
  b_law_strict : Binds K d_law_strict ["args"] []
  a_law_arg : Addr
  d_law_arg : FuncData
  F_law_arg : Fun K "_law_arg" "_law_arg" s_law_arg a_law_arg d_law_arg
  g_law_arg : mg "_law_arg" = some (.ref a_law_arg)
  b_law_arg : Binds K d_law_arg ["x", "draw"] []
  a_law_fits : Addr
  d_law_fits : FuncData
  F_law_fits : Fun K "_law_fits" "_law_fits" s_law_fits a_law_fits d_law_fits
  g_law_fits : mg "_law_fits" = some (.ref a_law_fits)
  b_law_fits : Binds K d_law_fits ["text", "pattern"] []
  a_law_pattern : Addr
  d_law_pattern : FuncData
  F_law_pattern : Fun K "_law_pattern" "_law_pattern" s_law_pattern a_law_pattern d_law_pattern
  g_law_pattern : mg "_law_pattern" = some (.ref a_law_pattern)
  b_law_pattern : Binds K d_law_pattern ["draws", "size"] []
  a_law_filled : Addr
  d_law_filled : FuncData
  F_law_filled : Fun K "_law_filled" "_law_filled" s_law_filled a_law_filled d_law_filled
  g_law_filled : mg "_law_filled" = some (.ref a_law_filled)
  b_law_filled : Binds K d_law_filled ["draws", "pattern"] []
  a_law_spoilt : Addr
  d_law_spoilt : FuncData
  F_law_spoilt : Fun K "_law_spoilt" "_law_spoilt" s_law_spoilt a_law_spoilt d_law_spoilt
  g_law_spoilt : mg "_law_spoilt" = some (.ref a_law_spoilt)
  b_law_spoilt : Binds K d_law_spoilt ["draws", "text"] []
  a_law : Addr
  d_law : FuncData
  F_law : Fun K "law" "law" s_law a_law d_law
  g_law : mg "law" = some (.ref a_law)
  b_law : Binds K d_law ["script"] []
  n_abs : mg "abs" = none
  n_bool : mg "bool" = none
  n_int : mg "int" = none
  n_isinstance : mg "isinstance" = none
  n_len : mg "len" = none
  n_max : mg "max" = none
  n_min : mg "min" = none
  n_range : mg "range" = none
  n_str : mg "str" = none
  n_tuple : mg "tuple" = none
  c_BOUND : ∃ t, mg "BOUND" = some (.int 1000000000000000000 t)
  c_CAST : ∃ t, mg "CAST" = some (.int 2 t)
  c_CHOOSING : ∃ a, mg "CHOOSING" = some (.ref a) ∧ ∀ F, Den K F (.ref a) k_CHOOSING
  c_COMPARING : ∃ a, mg "COMPARING" = some (.ref a) ∧ ∀ F, Den K F (.ref a) k_COMPARING
  c_DIV : ∃ t, mg "DIV" = some (.int 1 t)
  c_FIXED : ∃ a, mg "FIXED" = some (.ref a) ∧ TabD K w a t_FIXED
  c_LONGEST : ∃ t, mg "LONGEST" = some (.int 200 t)
  c_LOOSE : ∃ a, mg "LOOSE" = some (.ref a) ∧ ∀ F, Den K F (.ref a) k_LOOSE
  c_SIZE : ∃ t, mg "SIZE" = some (.int 4 t)
  c_TWO : ∃ a, mg "TWO" = some (.ref a) ∧ TabF K w a [((Str.ofString "add"), a_add), ((Str.ofString "sub"), a_subtract), ((Str.ofString "mul"), a_multiply), ((Str.ofString "div"), a_divide), ((Str.ofString "mod"), a_remainder), ((Str.ofString "cat"), a_join_texts), ((Str.ofString "like"), a_matches)]
def w_matches_7 : Sls → Nat := fun _ => 1000000
def w_matches_21 : Sls → Nat := fun _ => 1000000
def b1_matches : Sls → Out :=
    (gIf (dAnd (dB (d2 ltV (dVar 3) (dL lenD (dCons (dVar 1) dNil)))) (dB (d2 eqD (d2 ixD (dVar 1) (dVar 3)) (fun _ => .ok (.str (Str.ofString "*"))))))
    (gSeq (gSet 4 (dVar 3))
    (gSeq (gSet 5 (dVar 2))
    (gAug 3 iaddD (fun _ => .ok (.int 1)))))
    (gIf (dAnd (dB (d2 ltV (dVar 3) (dL lenD (dCons (dVar 1) dNil)))) (dB (d2 inD (d2 ixD (dVar 1) (dVar 3)) (dL tupD (dCons (fun _ => .ok (.str (Str.ofString "?"))) (dCons (d2 ixD (dVar 0) (dVar 2)) dNil))))))
    (gSeq (gAug 2 iaddD (fun _ => .ok (.int 1)))
    (gAug 3 iaddD (fun _ => .ok (.int 1))))
    (gIf (dB (d2 geD (dVar 4) (fun _ => .ok (.int 0))))
    (gSeq (gAug 5 iaddD (fun _ => .ok (.int 1)))
    (gSeq (gSet 2 (dVar 5))
    (gSet 3 (d2 addD (dVar 4) (fun _ => .ok (.int 1))))))
    (gRet (fun _ => .ok (.bool false))))))
def t2_matches : Sls → Res Bool :=
    (dB (d2 ltV (dVar 2) (dL lenD (dCons (dVar 0) dNil))))
def b3_matches : Sls → Out :=
    (gAug 3 iaddD (fun _ => .ok (.int 1)))
def t4_matches : Sls → Res Bool :=
    (dAnd (dB (d2 ltV (dVar 3) (dL lenD (dCons (dVar 1) dNil)))) (dB (d2 eqD (d2 ixD (dVar 1) (dVar 3)) (fun _ => .ok (.str (Str.ofString "*"))))))
def g_matches : Sls → Out :=
    (gSeq (gSet 2 (fun _ => .ok (.int 0)))
    (gSeq (gSet 3 (fun _ => .ok (.int 0)))
    (gSeq (gSet 4 (d1 negD (fun _ => .ok (.int 1))))
    (gSeq (gSet 5 (fun _ => .ok (.int 0)))
    (gSeq (gWhile w_matches_7 t2_matches
    b1_matches)
    (gSeq (gWhile w_matches_21 t4_matches
    b3_matches)
    (gRet (d2 eqD (dVar 3) (dL lenD (dCons (dVar 1) dNil))))))))))
@[simp] theorem st_matches (x0 x1 : PyData) : st0 n_matches [x0, x1] = [.val x0, .val x1, .un, .un, .un, .un] := rfl
def m_matches (ds : List PyData) : Res PyData := outR (g_matches (st0 n_matches ds))
theorem D_matches {P : Program} {w : World} {K : PySem.W.Frag} {mg : Str → Option Value} {base : Heap} (T : Tx w K mg) : FnD P w K mg base 1 T.a_matches T.d_matches ["text", "pattern"] m_matches :=
  fn_D (g := g_matches) T.F_matches sc_matches (by decide) (fun cdv A outer s H E Fz c =>
      (dss_cons (ds_set nd_matches (i := 2) rfl (by first | exact .inl rfl | exact .inr rfl) de_int)
      (dss_cons (ds_set nd_matches (i := 3) rfl (by first | exact .inl rfl | exact .inr rfl) de_int)
      (dss_cons (ds_set nd_matches (i := 4) rfl (by first | exact .inl rfl | exact .inr rfl) (de_un un_negD de_int))
      (dss_cons (ds_set nd_matches (i := 5) rfl (by first | exact .inl rfl | exact .inr rfl) de_int)
      (dss_cons (ds_while w_matches_7 c (dt_cmp (op_ltV c.room.units) (de_var (pv 2)) (de_callB call_lenV (by rfl) T.n_len (by decide +kernel) (da_cons (de_var (pv 0)) da_nil)) (nomark _)) (dss_one (ds_if (DW.dt (dw_and (dt_cmp (op_ltV c.room.units) (de_var (pv 3)) (de_callB call_lenV (by rfl) T.n_len (by decide +kernel) (da_cons (de_var (pv 1)) da_nil)) (nomark _)) (dw_and1 (dt_cmp (op_eqV c.room.units) (de_ix ix_D (de_var (pv 1)) (de_var (pv 3)) (fun _ _ => rfl)) de_str (nomark _))))) (dss_cons (ds_set nd_matches (i := 4) rfl (by first | exact .inl rfl | exact .inr rfl) (de_var (pv 3)))
      (dss_cons (ds_set nd_matches (i := 5) rfl (by first | exact .inl rfl | exact .inr rfl) (de_var (pv 2)))
      (dss_one (ds_aug nd_matches (i := 3) rfl (by first | exact .inl rfl | exact .inr rfl) de_int iop_addD)))) (dss_one (ds_if (DW.dt (dw_and (dt_cmp (op_ltV c.room.units) (de_var (pv 3)) (de_callB call_lenV (by rfl) T.n_len (by decide +kernel) (da_cons (de_var (pv 1)) da_nil)) (nomark _)) (dw_and1 (dt_cmp op_inV (de_ix ix_D (de_var (pv 1)) (de_var (pv 3)) (fun _ _ => rfl)) (de_tup (da_cons de_str (da_cons (de_ix ix_D (de_var (pv 0)) (de_var (pv 2)) (fun _ _ => rfl)) da_nil))) (by rfl))))) (dss_cons (ds_aug nd_matches (i := 2) rfl (by first | exact .inl rfl | exact .inr rfl) de_int iop_addD)
      (dss_one (ds_aug nd_matches (i := 3) rfl (by first | exact .inl rfl | exact .inr rfl) de_int iop_addD))) (dss_one (ds_if (dt_cmp op_geD (de_var (pv 4)) de_int (nomark _)) (dss_cons (ds_aug nd_matches (i := 5) rfl (by first | exact .inl rfl | exact .inr rfl) de_int iop_addD)
      (dss_cons (ds_set nd_matches (i := 2) rfl (by first | exact .inl rfl | exact .inr rfl) (de_var (pv 5)))
      (dss_one (ds_set nd_matches (i := 3) rfl (by first | exact .inl rfl | exact .inr rfl) (de_bin op_addD (de_var (pv 4)) de_int))))) (dss_one (ds_ret de_bl)))))))))
      (dss_cons (ds_while w_matches_21 c (DW.dt (dw_and (dt_cmp (op_ltV c.room.units) (de_var (pv 3)) (de_callB call_lenV (by rfl) T.n_len (by decide +kernel) (da_cons (de_var (pv 1)) da_nil)) (nomark _)) (dw_and1 (dt_cmp (op_eqV c.room.units) (de_ix ix_D (de_var (pv 1)) (de_var (pv 3)) (fun _ _ => rfl)) de_str (nomark _))))) (dss_one (ds_aug nd_matches (i := 3) rfl (by first | exact .inl rfl | exact .inr rfl) de_int iop_addD)))
      (dss_one (ds_ret (de_cmp (op_eqV c.room.units) (de_var (pv 3)) (de_callB call_lenV (by rfl) T.n_len (by decide +kernel) (da_cons (de_var (pv 1)) da_nil)) (nomark _))))))))))) fun ds _ => .inr rfl
def g_fault : Sls → Out :=
    (gRet (dL tupD (dCons (fun _ => .ok (.str (Str.ofString "fault"))) (dCons (dVar 0) dNil))))
@[simp] theorem st_fault (x0 : PyData) : st0 n_fault [x0] = [.val x0] := rfl
def m_fault (ds : List PyData) : Res PyData := outR (g_fault (st0 n_fault ds))
theorem D_fault {P : Program} {w : World} {K : PySem.W.Frag} {mg : Str → Option Value} {base : Heap} (T : Tx w K mg) : FnD P w K mg base 1 T.a_fault T.d_fault ["code"] m_fault :=
  fn_D (g := g_fault) T.F_fault sc_fault (by decide) (fun cdv A outer s H E Fz c =>
      (dss_one (ds_ret (de_tup (da_cons de_str (da_cons (de_var (pv 0)) da_nil)))))) fun ds _ => .inr rfl
def g_is_fault : Sls → Out :=
    (gSeq (gIf (dOr (dNot (dTru (d1 (isi1 isTuple) (dVar 0)))) (dOr (dB (d2 neD (dL lenD (dCons (dVar 0) dNil)) (fun _ => .ok (.int 2)))) (dNot (dTru (d1 (isi1 isStr) (d2 ixD (dVar 0) (fun _ => .ok (.int 0))))))))
    (gRet (fun _ => .ok (.bool false)))
    gNext)
    (gSeq (gIf (dOr (dNot (dTru (d1 (isi1 isInt) (d2 ixD (dVar 0) (fun _ => .ok (.int 1)))))) (dTru (d1 (isi1 isBool) (d2 ixD (dVar 0) (fun _ => .ok (.int 1))))))
    (gRet (fun _ => .ok (.bool false)))
    gNext)
    (gRet (dAndV (d2 eqD (d2 ixD (dVar 0) (fun _ => .ok (.int 0))) (fun _ => .ok (.str (Str.ofString "fault")))) (dChain leD leD (fun _ => .ok (.int 1)) (d2 ixD (dVar 0) (fun _ => .ok (.int 1))) (fun _ => .ok (.int 4)))))))
@[simp] theorem st_is_fault (x0 : PyData) : st0 n_is_fault [x0] = [.val x0] := rfl
def m_is_fault (ds : List PyData) : Res PyData := outR (g_is_fault (st0 n_is_fault ds))
theorem D_is_fault {P : Program} {w : World} {K : PySem.W.Frag} {mg : Str → Option Value} {base : Heap} (T : Tx w K mg) : FnD P w K mg base 1 T.a_is_fault T.d_is_fault ["x"] m_is_fault :=
  fn_D (g := g_is_fault) T.F_is_fault sc_is_fault (by decide) (fun cdv A outer s H E Fz c =>
      (dss_cons (ds_if (DW.dt (dw_or (dt_not (dt_truth (de_isi isi_tuple (by rfl) T.n_isinstance (by decide +kernel) (by rfl) T.n_tuple (by decide +kernel) (de_var (pv 0))))) (dw_or (dt_cmp (op_neV c.room.units) (de_callB call_lenV (by rfl) T.n_len (by decide +kernel) (da_cons (de_var (pv 0)) da_nil)) de_int (nomark _)) (dw_or1 (dt_not (dt_truth (de_isi isi_str (by rfl) T.n_isinstance (by decide +kernel) (by rfl) T.n_str (by decide +kernel) (de_ix ix_D (de_var (pv 0)) de_int (fun _ _ => rfl))))))))) (dss_one (ds_ret de_bl)) dss_nil)
      (dss_cons (ds_if (DW.dt (dw_or (dt_not (dt_truth (de_isi isi_int (by rfl) T.n_isinstance (by decide +kernel) (by rfl) T.n_int (by decide +kernel) (de_ix ix_D (de_var (pv 0)) de_int (fun _ _ => rfl))))) (dw_or1 (dt_truth (de_isi isi_bool (by rfl) T.n_isinstance (by decide +kernel) (by rfl) T.n_bool (by decide +kernel) (de_ix ix_D (de_var (pv 0)) de_int (fun _ _ => rfl))))))) (dss_one (ds_ret de_bl)) dss_nil)
      (dss_one (ds_ret (de_and (de_cmp (op_eqV c.room.units) (de_ix ix_D (de_var (pv 0)) de_int (fun _ _ => rfl)) de_str (nomark _)) (de_one (de_chain op_leD op_leD de_int (de_ix ix_D (de_var (pv 0)) de_int (fun _ _ => rfl)) de_int)))))))) fun ds _ => .inr rfl
def e1_least_fault : Sls → Res PyData :=
    (d2 ixD (dVar 2) (fun _ => .ok (.int 1)))
def u2_least_fault : Sls → Res Bool :=
    (dTru (dCall m_is_fault (dCons (dVar 2) dNil)))
def g_least_fault : Sls → Out :=
    (gSeq (gFrz 1 (gSetN 1 (dLc (dItems (dVar 0)) (bName 2) u2_least_fault e1_least_fault [2])))
    (gSeq (gIf (dNot (dTru (dVar 1)))
    (gRet (fun _ => .ok .none))
    gNext)
    (gRet (dL tupD (dCons (fun _ => .ok (.str (Str.ofString "fault"))) (dCons (dL minLD (dCons (dVar 1) dNil)) dNil))))))
@[simp] theorem st_least_fault (x0 : PyData) : st0 n_least_fault [x0] = [.val x0, .un, .un] := rfl
def m_least_fault (ds : List PyData) : Res PyData := outR (g_least_fault (st0 n_least_fault ds))
theorem D_least_fault {P : Program} {w : World} {K : PySem.W.Frag} {mg : Str → Option Value} {base : Heap} (T : Tx w K mg) : FnD P w K mg base 2 T.a_least_fault T.d_least_fault ["xs"] m_least_fault :=
  have D_is_fault := D_is_fault (P := P) (w := w) (base := base) T
  fn_D (g := g_least_fault) T.F_least_fault sc_least_fault (by decide) (fun cdv A outer s H E Fz c =>
      (dss_cons (DS.post 1 (ds_lcN (own := [("x", 2)]) c nd_least_fault (i := 1) rfl rfl (sw_true rfl rfl rfl (by decide +kernel)) (di_any (de_var (pv 0))) (blkOk_by (N := n_least_fault) (sc := defScope s_least_fault) (by decide +kernel)) (by decide) (fun _ _ _ _ _ c => (dg_name nd_least_fault (i := 2) rfl (by first | exact .inl rfl | exact .inr rfl))) (fun _ _ _ _ _ c => (dts_one (dt_truth (de_call D_is_fault c (by decide) (by rfl) T.g_is_fault T.F_is_fault.kp T.b_is_fault (da_cons (de_var (pv 2)) da_nil) (dCons_len nil_len))))) (fun _ _ _ _ _ c => (de_ix ix_D (de_var (pv 2)) de_int (fun _ _ => rfl)))))
      (dss_cons (ds_if (dt_not (dt_truth (de_var (pv 1)))) (dss_one (ds_ret de_non)) dss_nil)
      (dss_one (ds_ret (de_tup (da_cons de_str (da_cons (de_callB (call_minLV c.calm) (by rfl) T.n_min (by decide +kernel) (da_cons (de_var (pv 1)) da_nil)) da_nil)))))))) fun ds _ => .inr rfl
def g_value_key : Sls → Out :=
    (gSeq (gIf (dB (d2 isD (dVar 0) (fun _ => .ok .none)))
    (gRet (dL tupD (dCons (fun _ => .ok (.int 1)) (dCons (fun _ => .ok (.int 0)) dNil))))
    gNext)
    (gSeq (gIf (dTru (dCall m_is_fault (dCons (dVar 0) dNil)))
    (gRet (dL tupD (dCons (fun _ => .ok (.int 2)) (dCons (d2 ixD (dVar 0) (fun _ => .ok (.int 1))) dNil))))
    gNext)
    (gRet (dL tupD (dCons (fun _ => .ok (.int 0)) (dCons (dVar 0) dNil))))))
@[simp] theorem st_value_key (x0 : PyData) : st0 n_value_key [x0] = [.val x0] := rfl
def m_value_key (ds : List PyData) : Res PyData := outR (g_value_key (st0 n_value_key ds))
theorem D_value_key {P : Program} {w : World} {K : PySem.W.Frag} {mg : Str → Option Value} {base : Heap} (T : Tx w K mg) : FnD P w K mg base 2 T.a_value_key T.d_value_key ["value"] m_value_key :=
  have D_is_fault := D_is_fault (P := P) (w := w) (base := base) T
  fn_D (g := g_value_key) T.F_value_key sc_value_key (by decide) (fun cdv A outer s H E Fz c =>
      (dss_cons (ds_if (dt_cmp op_isD (de_var (pv 0)) de_non (nomark _)) (dss_one (ds_ret (de_tup (da_cons de_int (da_cons de_int da_nil))))) dss_nil)
      (dss_cons (ds_if (dt_truth (de_call D_is_fault c (by decide) (by rfl) T.g_is_fault T.F_is_fault.kp T.b_is_fault (da_cons (de_var (pv 0)) da_nil) (dCons_len nil_len))) (dss_one (ds_ret (de_tup (da_cons de_int (da_cons (de_ix ix_D (de_var (pv 0)) de_int (fun _ _ => rfl)) da_nil))))) dss_nil)
      (dss_one (ds_ret (de_tup (da_cons de_int (da_cons (de_var (pv 0)) da_nil)))))))) fun ds _ => .inr rfl
def g_order : Sls → Out :=
    (gSeq (gPar 2 3 (dCons (dCall m_value_key (dCons (dVar 0) dNil)) (dCons (dCall m_value_key (dCons (dVar 1) dNil)) dNil)))
    (gSeq (gIf (dB (d2 eqD (dVar 2) (dVar 3)))
    (gRet (fun _ => .ok (.int 0)))
    gNext)
    (gSeq (gIf (dB (d2 ltV (dVar 2) (dVar 3)))
    (gRet (d1 negD (fun _ => .ok (.int 1))))
    gNext)
    (gRet (fun _ => .ok (.int 1))))))
@[simp] theorem st_order (x0 x1 : PyData) : st0 n_order [x0, x1] = [.val x0, .val x1, .un, .un] := rfl
def m_order (ds : List PyData) : Res PyData := outR (g_order (st0 n_order ds))
theorem D_order {P : Program} {w : World} {K : PySem.W.Frag} {mg : Str → Option Value} {base : Heap} (T : Tx w K mg) : FnD P w K mg base 3 T.a_order T.d_order ["a", "b"] m_order :=
  have D_value_key := D_value_key (P := P) (w := w) (base := base) T
  fn_D (g := g_order) T.F_order sc_order (by decide) (fun cdv A outer s H E Fz c =>
      (dss_cons (ds_par c.calm nd_order (i := 2) (j := 3) rfl rfl (by decide) rfl rfl (da_cons (de_call D_value_key c (by decide) (by rfl) T.g_value_key T.F_value_key.kp T.b_value_key (da_cons (de_var (pv 0)) da_nil) (dCons_len nil_len)) (da_cons (de_call D_value_key c (by decide) (by rfl) T.g_value_key T.F_value_key.kp T.b_value_key (da_cons (de_var (pv 1)) da_nil) (dCons_len nil_len)) da_nil)) (by rfl))
      (dss_cons (ds_if (dt_cmp (op_eqV c.room.units) (de_var (pv 2)) (de_var (pv 3)) (nomark _)) (dss_one (ds_ret de_int)) dss_nil)
      (dss_cons (ds_if (dt_cmp (op_ltV c.room.units) (de_var (pv 2)) (de_var (pv 3)) (nomark _)) (dss_one (ds_ret (de_un un_negD de_int))) dss_nil)
      (dss_one (ds_ret de_int)))))) fun ds _ => .inr rfl
def g_takes_pair : Sls → Out :=
    (gRet (dOrV (d2 inD (dVar 0) (fun _ => .ok k_COMPARING)) (d2 inD (dVar 0) (fun _ => .ok k_CHOOSING))))
@[simp] theorem st_takes_pair (x0 : PyData) : st0 n_takes_pair [x0] = [.val x0] := rfl
def m_takes_pair (ds : List PyData) : Res PyData := outR (g_takes_pair (st0 n_takes_pair ds))
theorem D_takes_pair {P : Program} {w : World} {K : PySem.W.Frag} {mg : Str → Option Value} {base : Heap} (T : Tx w K mg) : FnD P w K mg base 1 T.a_takes_pair T.d_takes_pair ["name"] m_takes_pair :=
  fn_D (g := g_takes_pair) T.F_takes_pair sc_takes_pair (by decide) (fun cdv A outer s H E Fz c =>
      (dss_one (ds_ret (de_or (de_cmp op_inV (de_var (pv 0)) (de_globR (by rfl) T.c_COMPARING) (by rfl)) (de_one (de_cmp op_inV (de_var (pv 0)) (de_globR (by rfl) T.c_CHOOSING) (by rfl))))))) fun ds _ => .inr rfl
def g_is_strict : Sls → Out :=
    (gRet (dAndV (d2 notInD (dVar 0) (fun _ => .ok k_LOOSE)) (dOrV (d1 (inT t_FIXED) (dVar 0)) (dCall m_takes_pair (dCons (dVar 0) dNil)))))
@[simp] theorem st_is_strict (x0 : PyData) : st0 n_is_strict [x0] = [.val x0] := rfl
def m_is_strict (ds : List PyData) : Res PyData := outR (g_is_strict (st0 n_is_strict ds))
theorem D_is_strict {P : Program} {w : World} {K : PySem.W.Frag} {mg : Str → Option Value} {base : Heap} (T : Tx w K mg) : FnD P w K mg base 2 T.a_is_strict T.d_is_strict ["name"] m_is_strict :=
  have D_takes_pair := D_takes_pair (P := P) (w := w) (base := base) T
  fn_D (g := g_is_strict) T.F_is_strict sc_is_strict (by decide) (fun cdv A outer s H E Fz c =>
      (dss_one (ds_ret (de_and (de_cmp op_notInV (de_var (pv 0)) (de_globR (by rfl) T.c_LOOSE) (by rfl)) (de_one (de_or (de_inT (by rfl) T.c_FIXED (de_var (pv 0))) (de_one (de_call D_takes_pair c (by decide) (by rfl) T.g_takes_pair T.F_takes_pair.kp T.b_takes_pair (da_cons (de_var (pv 0)) da_nil) (dCons_len nil_len))))))))) fun ds _ => .inr rfl
def g_whole : Sls → Out :=
    (gSeq (gIf (dB (dChain ltV ltV (d1 negD (fun _ => .ok (.int 1000000000000000000))) (dVar 0) (fun _ => .ok (.int 1000000000000000000))))
    (gRet (dVar 0))
    gNext)
    (gRet (dCall m_fault (dCons (fun _ => .ok (.int 4)) dNil))))
@[simp] theorem st_whole (x0 : PyData) : st0 n_whole [x0] = [.val x0] := rfl
def m_whole (ds : List PyData) : Res PyData := outR (g_whole (st0 n_whole ds))
theorem D_whole {P : Program} {w : World} {K : PySem.W.Frag} {mg : Str → Option Value} {base : Heap} (T : Tx w K mg) : FnD P w K mg base 2 T.a_whole T.d_whole ["n"] m_whole :=
  have D_fault := D_fault (P := P) (w := w) (base := base) T
  fn_D (g := g_whole) T.F_whole sc_whole (by decide) (fun cdv A outer s H E Fz c =>
      (dss_cons (ds_if (dt_chain (op_ltV c.room.units) (op_ltV c.room.units) (de_un un_negD (de_globI (by rfl) T.c_BOUND)) (de_var (pv 0)) (de_globI (by rfl) T.c_BOUND)) (dss_one (ds_ret (de_var (pv 0)))) dss_nil)
      (dss_one (ds_ret (de_call D_fault c (by decide) (by rfl) T.g_fault T.F_fault.kp T.b_fault (da_cons (de_globI (by rfl) T.c_SIZE) da_nil) (dCons_len nil_len)))))) fun ds _ => .inr rfl
def g_add : Sls → Out :=
    (gRet (dCall m_whole (dCons (d2 addD (dVar 0) (dVar 1)) dNil)))
@[simp] theorem st_add (x0 x1 : PyData) : st0 n_add [x0, x1] = [.val x0, .val x1] := rfl
def m_add (ds : List PyData) : Res PyData := outR (g_add (st0 n_add ds))
theorem D_add {P : Program} {w : World} {K : PySem.W.Frag} {mg : Str → Option Value} {base : Heap} (T : Tx w K mg) : FnD P w K mg base 3 T.a_add T.d_add ["a", "b"] m_add :=
  have D_whole := D_whole (P := P) (w := w) (base := base) T
  fn_D (g := g_add) T.F_add sc_add (by decide) (fun cdv A outer s H E Fz c =>
      (dss_one (ds_ret (de_call D_whole c (by decide) (by rfl) T.g_whole T.F_whole.kp T.b_whole (da_cons (de_bin op_addD (de_var (pv 0)) (de_var (pv 1))) da_nil) (dCons_len nil_len))))) fun ds _ => .inr rfl
def g_subtract : Sls → Out :=
    (gRet (dCall m_whole (dCons (d2 subD (dVar 0) (dVar 1)) dNil)))
@[simp] theorem st_subtract (x0 x1 : PyData) : st0 n_subtract [x0, x1] = [.val x0, .val x1] := rfl
def m_subtract (ds : List PyData) : Res PyData := outR (g_subtract (st0 n_subtract ds))
theorem D_subtract {P : Program} {w : World} {K : PySem.W.Frag} {mg : Str → Option Value} {base : Heap} (T : Tx w K mg) : FnD P w K mg base 3 T.a_subtract T.d_subtract ["a", "b"] m_subtract :=
  have D_whole := D_whole (P := P) (w := w) (base := base) T
  fn_D (g := g_subtract) T.F_subtract sc_subtract (by decide) (fun cdv A outer s H E Fz c =>
      (dss_one (ds_ret (de_call D_whole c (by decide) (by rfl) T.g_whole T.F_whole.kp T.b_whole (da_cons (de_bin op_subD (de_var (pv 0)) (de_var (pv 1))) da_nil) (dCons_len nil_len))))) fun ds _ => .inr rfl
def g_multiply : Sls → Out :=
    (gRet (dCall m_whole (dCons (d2 mulVD (dVar 0) (dVar 1)) dNil)))
@[simp] theorem st_multiply (x0 x1 : PyData) : st0 n_multiply [x0, x1] = [.val x0, .val x1] := rfl
def m_multiply (ds : List PyData) : Res PyData := outR (g_multiply (st0 n_multiply ds))
theorem D_multiply {P : Program} {w : World} {K : PySem.W.Frag} {mg : Str → Option Value} {base : Heap} (T : Tx w K mg) : FnD P w K mg base 3 T.a_multiply T.d_multiply ["a", "b"] m_multiply :=
  have D_whole := D_whole (P := P) (w := w) (base := base) T
  fn_D (g := g_multiply) T.F_multiply sc_multiply (by decide) (fun cdv A outer s H E Fz c =>
      (dss_one (ds_ret (de_call D_whole c (by decide) (by rfl) T.g_whole T.F_whole.kp T.b_whole (da_cons (de_bin op_mulV (de_var (pv 0)) (de_var (pv 1))) da_nil) (dCons_len nil_len))))) fun ds _ => .inr rfl
def g_divide : Sls → Out :=
    (gSeq (gIf (dB (d2 eqD (dVar 1) (fun _ => .ok (.int 0))))
    (gRet (dCall m_fault (dCons (fun _ => .ok (.int 1)) dNil)))
    gNext)
    (gRet (dCall m_whole (dCons (d2 fdivD (dVar 0) (dVar 1)) dNil))))
@[simp] theorem st_divide (x0 x1 : PyData) : st0 n_divide [x0, x1] = [.val x0, .val x1] := rfl
def m_divide (ds : List PyData) : Res PyData := outR (g_divide (st0 n_divide ds))
theorem D_divide {P : Program} {w : World} {K : PySem.W.Frag} {mg : Str → Option Value} {base : Heap} (T : Tx w K mg) : FnD P w K mg base 3 T.a_divide T.d_divide ["a", "b"] m_divide :=
  have D_fault := D_fault (P := P) (w := w) (base := base) T
  have D_whole := D_whole (P := P) (w := w) (base := base) T
  fn_D (g := g_divide) T.F_divide sc_divide (by decide) (fun cdv A outer s H E Fz c =>
      (dss_cons (ds_if (dt_cmp (op_eqV c.room.units) (de_var (pv 1)) de_int (nomark _)) (dss_one (ds_ret (de_call D_fault c (by decide) (by rfl) T.g_fault T.F_fault.kp T.b_fault (da_cons (de_globI (by rfl) T.c_DIV) da_nil) (dCons_len nil_len)))) dss_nil)
      (dss_one (ds_ret (de_call D_whole c (by decide) (by rfl) T.g_whole T.F_whole.kp T.b_whole (da_cons (de_bin op_fdivD (de_var (pv 0)) (de_var (pv 1))) da_nil) (dCons_len nil_len)))))) fun ds _ => .inr rfl
def g_remainder : Sls → Out :=
    (gSeq (gIf (dB (d2 eqD (dVar 1) (fun _ => .ok (.int 0))))
    (gRet (dCall m_fault (dCons (fun _ => .ok (.int 1)) dNil)))
    gNext)
    (gRet (dCall m_whole (dCons (d2 subD (dVar 0) (d2 mulVD (dVar 1) (d2 fdivD (dVar 0) (dVar 1)))) dNil))))
@[simp] theorem st_remainder (x0 x1 : PyData) : st0 n_remainder [x0, x1] = [.val x0, .val x1] := rfl
def m_remainder (ds : List PyData) : Res PyData := outR (g_remainder (st0 n_remainder ds))
theorem D_remainder {P : Program} {w : World} {K : PySem.W.Frag} {mg : Str → Option Value} {base : Heap} (T : Tx w K mg) : FnD P w K mg base 3 T.a_remainder T.d_remainder ["a", "b"] m_remainder :=
  have D_fault := D_fault (P := P) (w := w) (base := base) T
  have D_whole := D_whole (P := P) (w := w) (base := base) T
  fn_D (g := g_remainder) T.F_remainder sc_remainder (by decide) (fun cdv A outer s H E Fz c =>
      (dss_cons (ds_if (dt_cmp (op_eqV c.room.units) (de_var (pv 1)) de_int (nomark _)) (dss_one (ds_ret (de_call D_fault c (by decide) (by rfl) T.g_fault T.F_fault.kp T.b_fault (da_cons (de_globI (by rfl) T.c_DIV) da_nil) (dCons_len nil_len)))) dss_nil)
      (dss_one (ds_ret (de_call D_whole c (by decide) (by rfl) T.g_whole T.F_whole.kp T.b_whole (da_cons (de_bin op_subD (de_var (pv 0)) (de_bin op_mulV (de_var (pv 1)) (de_bin op_fdivD (de_var (pv 0)) (de_var (pv 1))))) da_nil) (dCons_len nil_len)))))) fun ds _ => .inr rfl
def g_join_texts : Sls → Out :=
    (gSeq (gIf (dB (d2 gtV (d2 addD (dL lenD (dCons (dVar 0) dNil)) (dL lenD (dCons (dVar 1) dNil))) (fun _ => .ok (.int 200))))
    (gRet (dCall m_fault (dCons (fun _ => .ok (.int 4)) dNil)))
    gNext)
    (gRet (d2 addD (dVar 0) (dVar 1))))
@[simp] theorem st_join_texts (x0 x1 : PyData) : st0 n_join_texts [x0, x1] = [.val x0, .val x1] := rfl
def m_join_texts (ds : List PyData) : Res PyData := outR (g_join_texts (st0 n_join_texts ds))
theorem D_join_texts {P : Program} {w : World} {K : PySem.W.Frag} {mg : Str → Option Value} {base : Heap} (T : Tx w K mg) : FnD P w K mg base 2 T.a_join_texts T.d_join_texts ["a", "b"] m_join_texts :=
  have D_fault := D_fault (P := P) (w := w) (base := base) T
  fn_D (g := g_join_texts) T.F_join_texts sc_join_texts (by decide) (fun cdv A outer s H E Fz c =>
      (dss_cons (ds_if (dt_cmp (op_gtV c.room.units) (de_bin op_addD (de_callB call_lenV (by rfl) T.n_len (by decide +kernel) (da_cons (de_var (pv 0)) da_nil)) (de_callB call_lenV (by rfl) T.n_len (by decide +kernel) (da_cons (de_var (pv 1)) da_nil))) (de_globI (by rfl) T.c_LONGEST) (nomark _)) (dss_one (ds_ret (de_call D_fault c (by decide) (by rfl) T.g_fault T.F_fault.kp T.b_fault (da_cons (de_globI (by rfl) T.c_SIZE) da_nil) (dCons_len nil_len)))) dss_nil)
      (dss_one (ds_ret (de_bin op_addD (de_var (pv 0)) (de_var (pv 1))))))) fun ds _ => .inr rfl
def g_part : Sls → Out :=
    (gSeq (gSet 3 (dL max2D (dCons (dVar 1) (dCons (fun _ => .ok (.int 1)) dNil))))
    (gSeq (gSet 4 (dL min2D (dCons (d2 subD (d2 addD (dVar 1) (dVar 2)) (fun _ => .ok (.int 1))) (dCons (dL lenD (dCons (dVar 0) dNil)) dNil))))
    (gSeq (gIf (dOr (dB (d2 leD (dVar 2) (fun _ => .ok (.int 0)))) (dB (d2 ltV (dVar 4) (dVar 3))))
    (gRet (fun _ => .ok (.str (Str.ofString ""))))
    gNext)
    (gRet (dSl slD (dVar 0) (dPart (d2 subD (dVar 3) (fun _ => .ok (.int 1)))) (dPart (dVar 4)))))))
@[simp] theorem st_part (x0 x1 x2 : PyData) : st0 n_part [x0, x1, x2] = [.val x0, .val x1, .val x2, .un, .un] := rfl
def m_part (ds : List PyData) : Res PyData := outR (g_part (st0 n_part ds))
theorem D_part {P : Program} {w : World} {K : PySem.W.Frag} {mg : Str → Option Value} {base : Heap} (T : Tx w K mg) : FnD P w K mg base 1 T.a_part T.d_part ["text", "first", "many"] m_part :=
  fn_D (g := g_part) T.F_part sc_part (by decide) (fun cdv A outer s H E Fz c =>
      (dss_cons (ds_set nd_part (i := 3) rfl (by first | exact .inl rfl | exact .inr rfl) (de_callB (call_max2W c.calm) (by rfl) T.n_max (by decide +kernel) (da_cons (de_var (pv 1)) (da_cons de_int da_nil))))
      (dss_cons (ds_set nd_part (i := 4) rfl (by first | exact .inl rfl | exact .inr rfl) (de_callB (call_min2W c.calm) (by rfl) T.n_min (by decide +kernel) (da_cons (de_bin op_subD (de_bin op_addD (de_var (pv 1)) (de_var (pv 2))) de_int) (da_cons (de_callB call_lenV (by rfl) T.n_len (by decide +kernel) (da_cons (de_var (pv 0)) da_nil)) da_nil))))
      (dss_cons (ds_if (DW.dt (dw_or (dt_cmp op_leD (de_var (pv 2)) de_int (nomark _)) (dw_or1 (dt_cmp (op_ltV c.room.units) (de_var (pv 4)) (de_var (pv 3)) (nomark _))))) (dss_one (ds_ret de_str)) dss_nil)
      (dss_one (ds_ret (de_slice sl_D (de_var (pv 0)) (do_some (de_bin op_subD (de_var (pv 3)) de_int)) (do_some (de_var (pv 4)))))))))) fun ds _ => .inr rfl
def b1_read_number : Sls → Out :=
    (gIf (dNot (dB (dChain leD leD (fun _ => .ok (.str (Str.ofString "0"))) (dVar 2) (fun _ => .ok (.str (Str.ofString "9"))))))
    (gRet (dCall m_fault (dCons (fun _ => .ok (.int 2)) dNil)))
    gNext)
def g_read_number : Sls → Out :=
    (gSeq (gSet 1 (dVar 0))
    (gSeq (gIf (dTru (dM startsD (dVar 0) (dCons (fun _ => .ok (.str (Str.ofString "-"))) dNil)))
    (gSet 1 (dSl slD (dVar 0) (dPart (fun _ => .ok (.int 1))) (fun _ => .ok none)))
    gNext)
    (gSeq (gIf (dNot (dB (dChain leD leD (fun _ => .ok (.int 1)) (dL lenD (dCons (dVar 1) dNil)) (fun _ => .ok (.int 18)))))
    (gRet (dCall m_fault (dCons (fun _ => .ok (.int 2)) dNil)))
    gNext)
    (gSeq (gFor (dItems (dVar 1)) (bName 2)
    b1_read_number)
    (gSeq (gIf (dTru (dM startsD (dVar 0) (dCons (fun _ => .ok (.str (Str.ofString "-"))) dNil)))
    (gRet (d1 negD (dL intXD (dCons (dVar 1) dNil))))
    gNext)
    (gRet (dL intXD (dCons (dVar 1) dNil))))))))
@[simp] theorem st_read_number (x0 : PyData) : st0 n_read_number [x0] = [.val x0, .un, .un] := rfl
def m_read_number (ds : List PyData) : Res PyData := outR (g_read_number (st0 n_read_number ds))
theorem D_read_number {P : Program} {w : World} {K : PySem.W.Frag} {mg : Str → Option Value} {base : Heap} (T : Tx w K mg) : FnD P w K mg base 2 T.a_read_number T.d_read_number ["text"] m_read_number :=
  have D_fault := D_fault (P := P) (w := w) (base := base) T
  fn_D (g := g_read_number) T.F_read_number sc_read_number (by decide) (fun cdv A outer s H E Fz c =>
      (dss_cons (ds_set nd_read_number (i := 1) rfl (by first | exact .inl rfl | exact .inr rfl) (de_var (pv 0)))
      (dss_cons (ds_if (dt_truth (de_sm PySem.F.slot_str_startswith PySem.F.type_str_startswith mt_startsD (de_var (pv 0)) (da_cons de_str da_nil))) (dss_one (ds_set nd_read_number (i := 1) rfl (by first | exact .inl rfl | exact .inr rfl) (de_slice sl_D (de_var (pv 0)) (do_some de_int) do_none))) dss_nil)
      (dss_cons (ds_if (dt_not (dt_chain op_leD op_leD de_int (de_callB call_lenV (by rfl) T.n_len (by decide +kernel) (da_cons (de_var (pv 1)) da_nil)) de_int)) (dss_one (ds_ret (de_call D_fault c (by decide) (by rfl) T.g_fault T.F_fault.kp T.b_fault (da_cons (de_globI (by rfl) T.c_CAST) da_nil) (dCons_len nil_len)))) dss_nil)
      (dss_cons (ds_for c (di_any (de_var (pv 1))) (dg_name nd_read_number (i := 2) rfl (by first | exact .inl rfl | exact .inr rfl)) (dss_one (ds_if (dt_not (dt_chain op_leD op_leD de_str (de_var (pv 2)) de_str)) (dss_one (ds_ret (de_call D_fault c (by decide) (by rfl) T.g_fault T.F_fault.kp T.b_fault (da_cons (de_globI (by rfl) T.c_CAST) da_nil) (dCons_len nil_len)))) dss_nil)))
      (dss_cons (ds_if (dt_truth (de_sm PySem.F.slot_str_startswith PySem.F.type_str_startswith mt_startsD (de_var (pv 0)) (da_cons de_str da_nil))) (dss_one (ds_ret (de_un un_negD (de_callTy call_intX (by rfl) T.n_int (by decide +kernel) (da_cons (de_var (pv 1)) da_nil))))) dss_nil)
      (dss_one (ds_ret (de_callTy call_intX (by rfl) T.n_int (by decide +kernel) (da_cons (de_var (pv 1)) da_nil)))))))))) fun ds _ => .inr rfl
def g_compared : Sls → Out :=
    (gSeq (gSet 3 (dCall m_order (dCons (dVar 1) (dCons (dVar 2) dNil))))
    (gSeq (gIf (dB (d2 eqD (dVar 0) (fun _ => .ok (.str (Str.ofString "eq")))))
    (gRet (d2 eqD (dVar 3) (fun _ => .ok (.int 0))))
    gNext)
    (gSeq (gIf (dB (d2 eqD (dVar 0) (fun _ => .ok (.str (Str.ofString "ne")))))
    (gRet (d2 neD (dVar 3) (fun _ => .ok (.int 0))))
    gNext)
    (gSeq (gIf (dB (d2 eqD (dVar 0) (fun _ => .ok (.str (Str.ofString "lt")))))
    (gRet (d2 ltV (dVar 3) (fun _ => .ok (.int 0))))
    gNext)
    (gSeq (gIf (dB (d2 eqD (dVar 0) (fun _ => .ok (.str (Str.ofString "le")))))
    (gRet (d2 leD (dVar 3) (fun _ => .ok (.int 0))))
    gNext)
    (gSeq (gIf (dB (d2 eqD (dVar 0) (fun _ => .ok (.str (Str.ofString "gt")))))
    (gRet (d2 gtV (dVar 3) (fun _ => .ok (.int 0))))
    gNext)
    (gRet (d2 geD (dVar 3) (fun _ => .ok (.int 0))))))))))
@[simp] theorem st_compared (x0 x1 x2 : PyData) : st0 n_compared [x0, x1, x2] = [.val x0, .val x1, .val x2, .un] := rfl
def m_compared (ds : List PyData) : Res PyData := outR (g_compared (st0 n_compared ds))
theorem D_compared {P : Program} {w : World} {K : PySem.W.Frag} {mg : Str → Option Value} {base : Heap} (T : Tx w K mg) : FnD P w K mg base 4 T.a_compared T.d_compared ["name", "a", "b"] m_compared :=
  have D_order := D_order (P := P) (w := w) (base := base) T
  fn_D (g := g_compared) T.F_compared sc_compared (by decide) (fun cdv A outer s H E Fz c =>
      (dss_cons (ds_set nd_compared (i := 3) rfl (by first | exact .inl rfl | exact .inr rfl) (de_call D_order c (by decide) (by rfl) T.g_order T.F_order.kp T.b_order (da_cons (de_var (pv 1)) (da_cons (de_var (pv 2)) da_nil)) (dCons_len (dCons_len nil_len))))
      (dss_cons (ds_if (dt_cmp (op_eqV c.room.units) (de_var (pv 0)) de_str (nomark _)) (dss_one (ds_ret (de_cmp (op_eqV c.room.units) (de_var (pv 3)) de_int (nomark _)))) dss_nil)
      (dss_cons (ds_if (dt_cmp (op_eqV c.room.units) (de_var (pv 0)) de_str (nomark _)) (dss_one (ds_ret (de_cmp (op_neV c.room.units) (de_var (pv 3)) de_int (nomark _)))) dss_nil)
      (dss_cons (ds_if (dt_cmp (op_eqV c.room.units) (de_var (pv 0)) de_str (nomark _)) (dss_one (ds_ret (de_cmp (op_ltV c.room.units) (de_var (pv 3)) de_int (nomark _)))) dss_nil)
      (dss_cons (ds_if (dt_cmp (op_eqV c.room.units) (de_var (pv 0)) de_str (nomark _)) (dss_one (ds_ret (de_cmp op_leD (de_var (pv 3)) de_int (nomark _)))) dss_nil)
      (dss_cons (ds_if (dt_cmp (op_eqV c.room.units) (de_var (pv 0)) de_str (nomark _)) (dss_one (ds_ret (de_cmp (op_gtV c.room.units) (de_var (pv 3)) de_int (nomark _)))) dss_nil)
      (dss_one (ds_ret (de_cmp op_geD (de_var (pv 3)) de_int (nomark _))))))))))) fun ds _ => .inr rfl
def g_one_text : Sls → Out :=
    (gSeq (gIf (dB (d2 eqD (dVar 0) (fun _ => .ok (.str (Str.ofString "size")))))
    (gRet (dL lenD (dCons (dVar 1) dNil)))
    gNext)
    (gSeq (gIf (dB (d2 eqD (dVar 0) (fun _ => .ok (.str (Str.ofString "upper")))))
    (gRet (dM upperD (dVar 1) dNil))
    gNext)
    (gSeq (gIf (dB (d2 eqD (dVar 0) (fun _ => .ok (.str (Str.ofString "lower")))))
    (gRet (dM lowerD (dVar 1) dNil))
    gNext)
    (gRet (dCall m_read_number (dCons (dVar 1) dNil))))))
@[simp] theorem st_one_text (x0 x1 : PyData) : st0 n_one_text [x0, x1] = [.val x0, .val x1] := rfl
def m_one_text (ds : List PyData) : Res PyData := outR (g_one_text (st0 n_one_text ds))
theorem D_one_text {P : Program} {w : World} {K : PySem.W.Frag} {mg : Str → Option Value} {base : Heap} (T : Tx w K mg) : FnD P w K mg base 3 T.a_one_text T.d_one_text ["name", "text"] m_one_text :=
  have D_read_number := D_read_number (P := P) (w := w) (base := base) T
  fn_D (g := g_one_text) T.F_one_text sc_one_text (by decide) (fun cdv A outer s H E Fz c =>
      (dss_cons (ds_if (dt_cmp (op_eqV c.room.units) (de_var (pv 0)) de_str (nomark _)) (dss_one (ds_ret (de_callB call_lenV (by rfl) T.n_len (by decide +kernel) (da_cons (de_var (pv 1)) da_nil)))) dss_nil)
      (dss_cons (ds_if (dt_cmp (op_eqV c.room.units) (de_var (pv 0)) de_str (nomark _)) (dss_one (ds_ret (de_sm0 PySem.F.slot_str_upper PySem.F.type_str_upper mt_upperD (de_var (pv 1))))) dss_nil)
      (dss_cons (ds_if (dt_cmp (op_eqV c.room.units) (de_var (pv 0)) de_str (nomark _)) (dss_one (ds_ret (de_sm0 PySem.F.slot_str_lower PySem.F.type_str_lower mt_lowerD (de_var (pv 1))))) dss_nil)
      (dss_one (ds_ret (de_call D_read_number c (by decide) (by rfl) T.g_read_number T.F_read_number.kp T.b_read_number (da_cons (de_var (pv 1)) da_nil) (dCons_len nil_len)))))))) fun ds _ => .inr rfl
def g_one_argument : Sls → Out :=
    (gSeq (gIf (dB (d2 eqD (dVar 0) (fun _ => .ok (.str (Str.ofString "neg")))))
    (gRet (d1 negD (dVar 1)))
    gNext)
    (gSeq (gIf (dB (d2 eqD (dVar 0) (fun _ => .ok (.str (Str.ofString "abs")))))
    (gRet (dL absD (dCons (dVar 1) dNil)))
    gNext)
    (gSeq (gIf (dB (d2 eqD (dVar 0) (fun _ => .ok (.str (Str.ofString "words")))))
    (gRet (dL strD (dCons (dVar 1) dNil)))
    gNext)
    (gSeq (gIf (dB (d2 eqD (dVar 0) (fun _ => .ok (.str (Str.ofString "not")))))
    (gRet (d1 notD (dVar 1)))
    gNext)
    (gRet (dCall m_one_text (dCons (dVar 0) (dCons (dVar 1) dNil))))))))
@[simp] theorem st_one_argument (x0 x1 : PyData) : st0 n_one_argument [x0, x1] = [.val x0, .val x1] := rfl
def m_one_argument (ds : List PyData) : Res PyData := outR (g_one_argument (st0 n_one_argument ds))
theorem D_one_argument {P : Program} {w : World} {K : PySem.W.Frag} {mg : Str → Option Value} {base : Heap} (T : Tx w K mg) : FnD P w K mg base 4 T.a_one_argument T.d_one_argument ["name", "a"] m_one_argument :=
  have D_one_text := D_one_text (P := P) (w := w) (base := base) T
  fn_D (g := g_one_argument) T.F_one_argument sc_one_argument (by decide) (fun cdv A outer s H E Fz c =>
      (dss_cons (ds_if (dt_cmp (op_eqV c.room.units) (de_var (pv 0)) de_str (nomark _)) (dss_one (ds_ret (de_un un_negD (de_var (pv 1))))) dss_nil)
      (dss_cons (ds_if (dt_cmp (op_eqV c.room.units) (de_var (pv 0)) de_str (nomark _)) (dss_one (ds_ret (de_callB call_absV (by rfl) T.n_abs (by decide +kernel) (da_cons (de_var (pv 1)) da_nil)))) dss_nil)
      (dss_cons (ds_if (dt_cmp (op_eqV c.room.units) (de_var (pv 0)) de_str (nomark _)) (dss_one (ds_ret (de_callTy call_strV (by rfl) T.n_str (by decide +kernel) (da_cons (de_var (pv 1)) da_nil)))) dss_nil)
      (dss_cons (ds_if (dt_cmp (op_eqV c.room.units) (de_var (pv 0)) de_str (nomark _)) (dss_one (ds_ret (de_not (de_var (pv 1))))) dss_nil)
      (dss_one (ds_ret (de_call D_one_text c (by decide) (by rfl) T.g_one_text T.F_one_text.kp T.b_one_text (da_cons (de_var (pv 0)) (da_cons (de_var (pv 1)) da_nil)) (dCons_len (dCons_len nil_len)))))))))) fun ds _ => .inr rfl
def acts_TWO : List (Str × FnT) := [((Str.ofString "add"), m_add), ((Str.ofString "sub"), m_subtract), ((Str.ofString "mul"), m_multiply), ((Str.ofString "div"), m_divide), ((Str.ofString "mod"), m_remainder), ((Str.ofString "cat"), m_join_texts), ((Str.ofString "like"), m_matches)]
def g_strict : Sls → Out :=
    (gSeq (gIf (dB (d2 eqD (dL lenD (dCons (dVar 1) dNil)) (fun _ => .ok (.int 1))))
    (gRet (dCall m_one_argument (dCons (dVar 0) (dCons (d2 ixD (dVar 1) (fun _ => .ok (.int 0))) dNil))))
    gNext)
    (gSeq (gIf (dB (d2 eqD (dVar 0) (fun _ => .ok (.str (Str.ofString "part")))))
    (gRet (dCall m_part (dCons (d2 ixD (dVar 1) (fun _ => .ok (.int 0))) (dCons (d2 ixD (dVar 1) (fun _ => .ok (.int 1))) (dCons (d2 ixD (dVar 1) (fun _ => .ok (.int 2))) dNil)))))
    gNext)
    (gSeq (gAsg (dVar 1) (bTup 2 (bCons (bName 2) (bCons (bName 3) bNil))))
    (gSeq (gIf (dB (d1 (inK [(Str.ofString "add"), (Str.ofString "sub"), (Str.ofString "mul"), (Str.ofString "div"), (Str.ofString "mod"), (Str.ofString "cat"), (Str.ofString "like")]) (dVar 0)))
    (gAct 4 acts_TWO (dVar 0) (dCons (dVar 2) (dCons (dVar 3) dNil)))
    gNext)
    (gSeq (gIf (dB (d2 eqD (dVar 0) (fun _ => .ok (.str (Str.ofString "most")))))
    (gRet (dIf (dB (d2 geD (dCall m_order (dCons (dVar 2) (dCons (dVar 3) dNil))) (fun _ => .ok (.int 0)))) (dVar 2) (dVar 3)))
    gNext)
    (gSeq (gIf (dB (d2 eqD (dVar 0) (fun _ => .ok (.str (Str.ofString "least")))))
    (gRet (dIf (dB (d2 leD (dCall m_order (dCons (dVar 2) (dCons (dVar 3) dNil))) (fun _ => .ok (.int 0)))) (dVar 2) (dVar 3)))
    gNext)
    (gRet (dCall m_compared (dCons (dVar 0) (dCons (dVar 2) (dCons (dVar 3) dNil)))))))))))
@[simp] theorem st_strict (x0 x1 : PyData) : st0 n_strict [x0, x1] = [.val x0, .val x1, .un, .un, .un] := rfl
def m_strict (ds : List PyData) : Res PyData := outR (g_strict (st0 n_strict ds))
theorem D_strict {P : Program} {w : World} {K : PySem.W.Frag} {mg : Str → Option Value} {base : Heap} (T : Tx w K mg) : FnD P w K mg base 5 T.a_strict T.d_strict ["name", "args"] m_strict :=
  have D_one_argument := D_one_argument (P := P) (w := w) (base := base) T
  have D_part := D_part (P := P) (w := w) (base := base) T
  have D_add := D_add (P := P) (w := w) (base := base) T
  have D_subtract := D_subtract (P := P) (w := w) (base := base) T
  have D_multiply := D_multiply (P := P) (w := w) (base := base) T
  have D_divide := D_divide (P := P) (w := w) (base := base) T
  have D_remainder := D_remainder (P := P) (w := w) (base := base) T
  have D_join_texts := D_join_texts (P := P) (w := w) (base := base) T
  have D_matches := D_matches (P := P) (w := w) (base := base) T
  have D_order := D_order (P := P) (w := w) (base := base) T
  have D_compared := D_compared (P := P) (w := w) (base := base) T
  have A_TWO : Acts P w K mg base 3 2 [((Str.ofString "add"), T.a_add), ((Str.ofString "sub"), T.a_subtract), ((Str.ofString "mul"), T.a_multiply), ((Str.ofString "div"), T.a_divide), ((Str.ofString "mod"), T.a_remainder), ((Str.ofString "cat"), T.a_join_texts), ((Str.ofString "like"), T.a_matches)] acts_TWO := (.cons (FnD.mono D_add (by decide)) T.F_add.kp T.b_add rfl (.cons (FnD.mono D_subtract (by decide)) T.F_subtract.kp T.b_subtract rfl (.cons (FnD.mono D_multiply (by decide)) T.F_multiply.kp T.b_multiply rfl (.cons (FnD.mono D_divide (by decide)) T.F_divide.kp T.b_divide rfl (.cons (FnD.mono D_remainder (by decide)) T.F_remainder.kp T.b_remainder rfl (.cons (FnD.mono D_join_texts (by decide)) T.F_join_texts.kp T.b_join_texts rfl (.cons (FnD.mono D_matches (by decide)) T.F_matches.kp T.b_matches rfl .nil)))))))
  fn_D (g := g_strict) T.F_strict sc_strict (by decide) (fun cdv A outer s H E Fz c =>
      (dss_cons (ds_if (dt_cmp (op_eqV c.room.units) (de_callB call_lenV (by rfl) T.n_len (by decide +kernel) (da_cons (de_var (pv 1)) da_nil)) de_int (nomark _)) (dss_one (ds_ret (de_call D_one_argument c (by decide) (by rfl) T.g_one_argument T.F_one_argument.kp T.b_one_argument (da_cons (de_var (pv 0)) (da_cons (de_ix ix_D (de_var (pv 1)) de_int (fun _ _ => rfl)) da_nil)) (dCons_len (dCons_len nil_len))))) dss_nil)
      (dss_cons (ds_if (dt_cmp (op_eqV c.room.units) (de_var (pv 0)) de_str (nomark _)) (dss_one (ds_ret (de_call D_part c (by decide) (by rfl) T.g_part T.F_part.kp T.b_part (da_cons (de_ix ix_D (de_var (pv 1)) de_int (fun _ _ => rfl)) (da_cons (de_ix ix_D (de_var (pv 1)) de_int (fun _ _ => rfl)) (da_cons (de_ix ix_D (de_var (pv 1)) de_int (fun _ _ => rfl)) da_nil))) (dCons_len (dCons_len (dCons_len nil_len)))))) dss_nil)
      (dss_cons (ds_asg (de_var (pv 1)) (dg_tup c.calm (dgs_cons (dg_name nd_strict (i := 2) rfl (by first | exact .inl rfl | exact .inr rfl)) (dgs_cons (dg_name nd_strict (i := 3) rfl (by first | exact .inl rfl | exact .inr rfl)) dgs_nil))))
      (dss_cons (ds_if (dt_inTF (by rfl) T.c_TWO (de_var (pv 0))) (dss_act (i := 4) c (by decide) (by rfl) T.c_TWO A_TWO nd_strict rfl (by first | exact .inl rfl | exact .inr rfl) (by first | exact .inl rfl | exact .inr rfl) (de_var (pv 0)) (fun _ _ => rfl) (da_cons (de_var (pv 2)) (da_cons (de_var (pv 3)) da_nil)) (dCons_len (dCons_len nil_len))) dss_nil)
      (dss_cons (ds_if (dt_cmp (op_eqV c.room.units) (de_var (pv 0)) de_str (nomark _)) (dss_one (ds_ret (de_ifExp (dt_cmp op_geD (de_call D_order c (by decide) (by rfl) T.g_order T.F_order.kp T.b_order (da_cons (de_var (pv 2)) (da_cons (de_var (pv 3)) da_nil)) (dCons_len (dCons_len nil_len))) de_int (nomark _)) (de_var (pv 2)) (de_var (pv 3))))) dss_nil)
      (dss_cons (ds_if (dt_cmp (op_eqV c.room.units) (de_var (pv 0)) de_str (nomark _)) (dss_one (ds_ret (de_ifExp (dt_cmp op_leD (de_call D_order c (by decide) (by rfl) T.g_order T.F_order.kp T.b_order (da_cons (de_var (pv 2)) (da_cons (de_var (pv 3)) da_nil)) (dCons_len (dCons_len nil_len))) de_int (nomark _)) (de_var (pv 2)) (de_var (pv 3))))) dss_nil)
      (dss_one (ds_ret (de_call D_compared c (by decide) (by rfl) T.g_compared T.F_compared.kp T.b_compared (da_cons (de_var (pv 0)) (da_cons (de_var (pv 2)) (da_cons (de_var (pv 3)) da_nil))) (dCons_len (dCons_len (dCons_len nil_len))))))))))))) fun ds _ => .inr rfl
def e1_decided : Sls → Res PyData :=
    (dVar 2)
def u2_decided : Sls → Res Bool :=
    (dTru (d1 (isi1 isBool) (dVar 2)))
def b3_decided : Sls → Out :=
    (gIf (dB (d2 isD (dVar 2) (fun _ => .ok .none)))
    (gRet (fun _ => .ok .none))
    gNext)
def g_decided : Sls → Out :=
    (gSeq (gIf (dB (d2 inD (dVar 1) (dFr (dLc (dItems (dVar 0)) (bName 2) u2_decided e1_decided [2]))))
    (gRet (dVar 1))
    gNext)
    (gSeq (gFor (dItems (dVar 0)) (bName 2)
    b3_decided)
    (gSeq (gSet 3 (dCall m_least_fault (dCons (dVar 0) dNil)))
    (gSeq (gIf (dB (d2 isNotD (dVar 3) (fun _ => .ok .none)))
    (gRet (dVar 3))
    gNext)
    (gRet (d1 notD (dVar 1)))))))
@[simp] theorem st_decided (x0 x1 : PyData) : st0 n_decided [x0, x1] = [.val x0, .val x1, .un, .un] := rfl
def m_decided (ds : List PyData) : Res PyData := outR (g_decided (st0 n_decided ds))
theorem D_decided {P : Program} {w : World} {K : PySem.W.Frag} {mg : Str → Option Value} {base : Heap} (T : Tx w K mg) : FnD P w K mg base 3 T.a_decided T.d_decided ["args", "worth"] m_decided :=
  have D_least_fault := D_least_fault (P := P) (w := w) (base := base) T
  fn_D (g := g_decided) T.F_decided sc_decided (by decide) (fun cdv A outer s H E Fz c =>
      (dss_cons (ds_if (dt_cmp op_inV (de_var (pv 1)) (DN.de (dn_lc (own := [("arg", 2)]) c nd_decided (di_any (de_var (pv 0))) (blkOk_by (N := n_decided) (sc := defScope s_decided) (by decide +kernel)) (by decide) (fun _ _ _ _ _ c => (dg_name nd_decided (i := 2) rfl (by first | exact .inl rfl | exact .inr rfl))) (fun _ _ _ _ _ c => (dts_one (dt_truth (de_isi isi_bool (by rfl) T.n_isinstance (by decide +kernel) (by rfl) T.n_bool (by decide +kernel) (de_var (pv 2)))))) (fun _ _ _ _ _ c => (de_var (pv 2))))) (by rfl)) (dss_one (ds_ret (de_var (pv 1)))) dss_nil)
      (dss_cons (ds_for c (di_any (de_var (pv 0))) (dg_name nd_decided (i := 2) rfl (by first | exact .inl rfl | exact .inr rfl)) (dss_one (ds_if (dt_cmp op_isD (de_var (pv 2)) de_non (nomark _)) (dss_one (ds_ret de_non)) dss_nil)))
      (dss_cons (ds_set nd_decided (i := 3) rfl (by first | exact .inl rfl | exact .inr rfl) (de_call D_least_fault c (by decide) (by rfl) T.g_least_fault T.F_least_fault.kp T.b_least_fault (da_cons (de_var (pv 0)) da_nil) (dCons_len nil_len)))
      (dss_cons (ds_if (dt_cmp op_isNotD (de_var (pv 3)) de_non (nomark _)) (dss_one (ds_ret (de_var (pv 3)))) dss_nil)
      (dss_one (ds_ret (de_not (de_var (pv 1)))))))))) fun ds _ => .inr rfl
def g_same : Sls → Out :=
    (gSeq (gSet 2 (dCall m_least_fault (dCons (dFr (dDisp (dCons (dVar 0) (dCons (dVar 1) dNil)))) dNil)))
    (gSeq (gIf (dB (d2 isNotD (dVar 2) (fun _ => .ok .none)))
    (gRet (dVar 2))
    gNext)
    (gRet (d2 eqD (dCall m_order (dCons (dVar 0) (dCons (dVar 1) dNil))) (fun _ => .ok (.int 0))))))
@[simp] theorem st_same (x0 x1 : PyData) : st0 n_same [x0, x1] = [.val x0, .val x1, .un] := rfl
def m_same (ds : List PyData) : Res PyData := outR (g_same (st0 n_same ds))
theorem D_same {P : Program} {w : World} {K : PySem.W.Frag} {mg : Str → Option Value} {base : Heap} (T : Tx w K mg) : FnD P w K mg base 4 T.a_same T.d_same ["a", "b"] m_same :=
  have D_least_fault := D_least_fault (P := P) (w := w) (base := base) T
  have D_order := D_order (P := P) (w := w) (base := base) T
  fn_D (g := g_same) T.F_same sc_same (by decide) (fun cdv A outer s H E Fz c =>
      (dss_cons (ds_set nd_same (i := 2) rfl (by first | exact .inl rfl | exact .inr rfl) (de_call D_least_fault c (by decide) (by rfl) T.g_least_fault T.F_least_fault.kp T.b_least_fault (da_cons (DN.de (dn_lst (da_cons (de_var (pv 0)) (da_cons (de_var (pv 1)) da_nil)))) da_nil) (dCons_len nil_len)))
      (dss_cons (ds_if (dt_cmp op_isNotD (de_var (pv 2)) de_non (nomark _)) (dss_one (ds_ret (de_var (pv 2)))) dss_nil)
      (dss_one (ds_ret (de_cmp (op_eqV c.room.units) (de_call D_order c (by decide) (by rfl) T.g_order T.F_order.kp T.b_order (da_cons (de_var (pv 0)) (da_cons (de_var (pv 1)) da_nil)) (dCons_len (dCons_len nil_len))) de_int (nomark _))))))) fun ds _ => .inr rfl
def g_nullif : Sls → Out :=
    (gSeq (gIf (dOr (dB (d2 isD (dVar 0) (fun _ => .ok .none))) (dTru (dCall m_is_fault (dCons (dVar 0) dNil))))
    (gRet (dVar 0))
    gNext)
    (gSeq (gIf (dTru (dCall m_is_fault (dCons (dVar 1) dNil)))
    (gRet (dVar 1))
    gNext)
    (gSeq (gIf (dAnd (dB (d2 isNotD (dVar 1) (fun _ => .ok .none))) (dB (d2 eqD (dCall m_order (dCons (dVar 0) (dCons (dVar 1) dNil))) (fun _ => .ok (.int 0)))))
    (gRet (fun _ => .ok .none))
    gNext)
    (gRet (dVar 0)))))
@[simp] theorem st_nullif (x0 x1 : PyData) : st0 n_nullif [x0, x1] = [.val x0, .val x1] := rfl
def m_nullif (ds : List PyData) : Res PyData := outR (g_nullif (st0 n_nullif ds))
theorem D_nullif {P : Program} {w : World} {K : PySem.W.Frag} {mg : Str → Option Value} {base : Heap} (T : Tx w K mg) : FnD P w K mg base 4 T.a_nullif T.d_nullif ["a", "b"] m_nullif :=
  have D_is_fault := D_is_fault (P := P) (w := w) (base := base) T
  have D_order := D_order (P := P) (w := w) (base := base) T
  fn_D (g := g_nullif) T.F_nullif sc_nullif (by decide) (fun cdv A outer s H E Fz c =>
      (dss_cons (ds_if (DW.dt (dw_or (dt_cmp op_isD (de_var (pv 0)) de_non (nomark _)) (dw_or1 (dt_truth (de_call D_is_fault c (by decide) (by rfl) T.g_is_fault T.F_is_fault.kp T.b_is_fault (da_cons (de_var (pv 0)) da_nil) (dCons_len nil_len)))))) (dss_one (ds_ret (de_var (pv 0)))) dss_nil)
      (dss_cons (ds_if (dt_truth (de_call D_is_fault c (by decide) (by rfl) T.g_is_fault T.F_is_fault.kp T.b_is_fault (da_cons (de_var (pv 1)) da_nil) (dCons_len nil_len))) (dss_one (ds_ret (de_var (pv 1)))) dss_nil)
      (dss_cons (ds_if (DW.dt (dw_and (dt_cmp op_isNotD (de_var (pv 1)) de_non (nomark _)) (dw_and1 (dt_cmp (op_eqV c.room.units) (de_call D_order c (by decide) (by rfl) T.g_order T.F_order.kp T.b_order (da_cons (de_var (pv 0)) (da_cons (de_var (pv 1)) da_nil)) (dCons_len (dCons_len nil_len))) de_int (nomark _))))) (dss_one (ds_ret de_non)) dss_nil)
      (dss_one (ds_ret (de_var (pv 0)))))))) fun ds _ => .inr rfl
def g_loose : Sls → Out :=
    (gSeq (gIf (dB (d2 eqD (dVar 0) (fun _ => .ok (.str (Str.ofString "and")))))
    (gRet (dCall m_decided (dCons (dVar 1) (dCons (fun _ => .ok (.bool false)) dNil))))
    gNext)
    (gSeq (gIf (dB (d2 eqD (dVar 0) (fun _ => .ok (.str (Str.ofString "or")))))
    (gRet (dCall m_decided (dCons (dVar 1) (dCons (fun _ => .ok (.bool true)) dNil))))
    gNext)
    (gSeq (gIf (dB (d2 eqD (dVar 0) (fun _ => .ok (.str (Str.ofString "isnull")))))
    (gRet (dIf (dTru (dCall m_is_fault (dCons (d2 ixD (dVar 1) (fun _ => .ok (.int 0))) dNil))) (d2 ixD (dVar 1) (fun _ => .ok (.int 0))) (d2 isD (d2 ixD (dVar 1) (fun _ => .ok (.int 0))) (fun _ => .ok .none))))
    gNext)
    (gSeq (gIf (dB (d2 eqD (dVar 0) (fun _ => .ok (.str (Str.ofString "same")))))
    (gRet (dCall m_same (dCons (d2 ixD (dVar 1) (fun _ => .ok (.int 0))) (dCons (d2 ixD (dVar 1) (fun _ => .ok (.int 1))) dNil))))
    gNext)
    (gSeq (gIf (dB (d2 eqD (dVar 0) (fun _ => .ok (.str (Str.ofString "coalesce")))))
    (gRet (dIf (dB (d2 isD (d2 ixD (dVar 1) (fun _ => .ok (.int 0))) (fun _ => .ok .none))) (d2 ixD (dVar 1) (fun _ => .ok (.int 1))) (d2 ixD (dVar 1) (fun _ => .ok (.int 0)))))
    gNext)
    (gRet (dCall m_nullif (dCons (d2 ixD (dVar 1) (fun _ => .ok (.int 0))) (dCons (d2 ixD (dVar 1) (fun _ => .ok (.int 1))) dNil)))))))))
@[simp] theorem st_loose (x0 x1 : PyData) : st0 n_loose [x0, x1] = [.val x0, .val x1] := rfl
def m_loose (ds : List PyData) : Res PyData := outR (g_loose (st0 n_loose ds))
theorem D_loose {P : Program} {w : World} {K : PySem.W.Frag} {mg : Str → Option Value} {base : Heap} (T : Tx w K mg) : FnD P w K mg base 5 T.a_loose T.d_loose ["name", "args"] m_loose :=
  have D_decided := D_decided (P := P) (w := w) (base := base) T
  have D_is_fault := D_is_fault (P := P) (w := w) (base := base) T
  have D_same := D_same (P := P) (w := w) (base := base) T
  have D_nullif := D_nullif (P := P) (w := w) (base := base) T
  fn_D (g := g_loose) T.F_loose sc_loose (by decide) (fun cdv A outer s H E Fz c =>
      (dss_cons (ds_if (dt_cmp (op_eqV c.room.units) (de_var (pv 0)) de_str (nomark _)) (dss_one (ds_ret (de_call D_decided c (by decide) (by rfl) T.g_decided T.F_decided.kp T.b_decided (da_cons (de_var (pv 1)) (da_cons de_bl da_nil)) (dCons_len (dCons_len nil_len))))) dss_nil)
      (dss_cons (ds_if (dt_cmp (op_eqV c.room.units) (de_var (pv 0)) de_str (nomark _)) (dss_one (ds_ret (de_call D_decided c (by decide) (by rfl) T.g_decided T.F_decided.kp T.b_decided (da_cons (de_var (pv 1)) (da_cons de_bl da_nil)) (dCons_len (dCons_len nil_len))))) dss_nil)
      (dss_cons (ds_if (dt_cmp (op_eqV c.room.units) (de_var (pv 0)) de_str (nomark _)) (dss_one (ds_ret (de_ifExp (dt_truth (de_call D_is_fault c (by decide) (by rfl) T.g_is_fault T.F_is_fault.kp T.b_is_fault (da_cons (de_ix ix_D (de_var (pv 1)) de_int (fun _ _ => rfl)) da_nil) (dCons_len nil_len))) (de_ix ix_D (de_var (pv 1)) de_int (fun _ _ => rfl)) (de_cmp op_isD (de_ix ix_D (de_var (pv 1)) de_int (fun _ _ => rfl)) de_non (nomark _))))) dss_nil)
      (dss_cons (ds_if (dt_cmp (op_eqV c.room.units) (de_var (pv 0)) de_str (nomark _)) (dss_one (ds_ret (de_call D_same c (by decide) (by rfl) T.g_same T.F_same.kp T.b_same (da_cons (de_ix ix_D (de_var (pv 1)) de_int (fun _ _ => rfl)) (da_cons (de_ix ix_D (de_var (pv 1)) de_int (fun _ _ => rfl)) da_nil)) (dCons_len (dCons_len nil_len))))) dss_nil)
      (dss_cons (ds_if (dt_cmp (op_eqV c.room.units) (de_var (pv 0)) de_str (nomark _)) (dss_one (ds_ret (de_ifExp (dt_cmp op_isD (de_ix ix_D (de_var (pv 1)) de_int (fun _ _ => rfl)) de_non (nomark _)) (de_ix ix_D (de_var (pv 1)) de_int (fun _ _ => rfl)) (de_ix ix_D (de_var (pv 1)) de_int (fun _ _ => rfl))))) dss_nil)
      (dss_one (ds_ret (de_call D_nullif c (by decide) (by rfl) T.g_nullif T.F_nullif.kp T.b_nullif (da_cons (de_ix ix_D (de_var (pv 1)) de_int (fun _ _ => rfl)) (da_cons (de_ix ix_D (de_var (pv 1)) de_int (fun _ _ => rfl)) da_nil)) (dCons_len (dCons_len nil_len))))))))))) fun ds _ => .inr rfl
def b1_worked : Sls → Out :=
    (gIf (dB (d2 isD (dVar 2) (fun _ => .ok .none)))
    (gRet (fun _ => .ok .none))
    gNext)
def g_worked : Sls → Out :=
    (gSeq (gIf (dNot (dTru (dCall m_is_strict (dCons (dVar 0) dNil))))
    (gRet (dCall m_loose (dCons (dVar 0) (dCons (dVar 1) dNil))))
    gNext)
    (gSeq (gFor (dItems (dVar 1)) (bName 2)
    b1_worked)
    (gSeq (gSet 3 (dCall m_least_fault (dCons (dVar 1) dNil)))
    (gSeq (gIf (dB (d2 isNotD (dVar 3) (fun _ => .ok .none)))
    (gRet (dVar 3))
    gNext)
    (gRet (dCall m_strict (dCons (dVar 0) (dCons (dVar 1) dNil))))))))
@[simp] theorem st_worked (x0 x1 : PyData) : st0 n_worked [x0, x1] = [.val x0, .val x1, .un, .un] := rfl
def m_worked (ds : List PyData) : Res PyData := outR (g_worked (st0 n_worked ds))
theorem D_worked {P : Program} {w : World} {K : PySem.W.Frag} {mg : Str → Option Value} {base : Heap} (T : Tx w K mg) : FnD P w K mg base 6 T.a_worked T.d_worked ["name", "args"] m_worked :=
  have D_is_strict := D_is_strict (P := P) (w := w) (base := base) T
  have D_loose := D_loose (P := P) (w := w) (base := base) T
  have D_least_fault := D_least_fault (P := P) (w := w) (base := base) T
  have D_strict := D_strict (P := P) (w := w) (base := base) T
  fn_D (g := g_worked) T.F_worked sc_worked (by decide) (fun cdv A outer s H E Fz c =>
      (dss_cons (ds_if (dt_not (dt_truth (de_call D_is_strict c (by decide) (by rfl) T.g_is_strict T.F_is_strict.kp T.b_is_strict (da_cons (de_var (pv 0)) da_nil) (dCons_len nil_len)))) (dss_one (ds_ret (de_call D_loose c (by decide) (by rfl) T.g_loose T.F_loose.kp T.b_loose (da_cons (de_var (pv 0)) (da_cons (de_var (pv 1)) da_nil)) (dCons_len (dCons_len nil_len))))) dss_nil)
      (dss_cons (ds_for c (di_any (de_var (pv 1))) (dg_name nd_worked (i := 2) rfl (by first | exact .inl rfl | exact .inr rfl)) (dss_one (ds_if (dt_cmp op_isD (de_var (pv 2)) de_non (nomark _)) (dss_one (ds_ret de_non)) dss_nil)))
      (dss_cons (ds_set nd_worked (i := 3) rfl (by first | exact .inl rfl | exact .inr rfl) (de_call D_least_fault c (by decide) (by rfl) T.g_least_fault T.F_least_fault.kp T.b_least_fault (da_cons (de_var (pv 1)) da_nil) (dCons_len nil_len)))
      (dss_cons (ds_if (dt_cmp op_isNotD (de_var (pv 3)) de_non (nomark _)) (dss_one (ds_ret (de_var (pv 3)))) dss_nil)
      (dss_one (ds_ret (de_call D_strict c (by decide) (by rfl) T.g_strict T.F_strict.kp T.b_strict (da_cons (de_var (pv 0)) (da_cons (de_var (pv 1)) da_nil)) (dCons_len (dCons_len nil_len)))))))))) fun ds _ => .inr rfl
def g_law_cell : Sls → Out :=
    (gSeq (gIf (dB (d2 ltV (dVar 1) (dL lenD (dCons (dVar 0) dNil))))
    (gRet (d2 ixD (dVar 0) (dVar 1)))
    gNext)
    (gRet (fun _ => .ok (.int 0))))
@[simp] theorem st_law_cell (x0 x1 : PyData) : st0 n_law_cell [x0, x1] = [.val x0, .val x1] := rfl
def m_law_cell (ds : List PyData) : Res PyData := outR (g_law_cell (st0 n_law_cell ds))
theorem D_law_cell {P : Program} {w : World} {K : PySem.W.Frag} {mg : Str → Option Value} {base : Heap} (T : Tx w K mg) : FnD P w K mg base 1 T.a_law_cell T.d_law_cell ["script", "k"] m_law_cell :=
  fn_D (g := g_law_cell) T.F_law_cell sc_law_cell (by decide) (fun cdv A outer s H E Fz c =>
      (dss_cons (ds_if (dt_cmp (op_ltV c.room.units) (de_var (pv 1)) (de_callB call_lenV (by rfl) T.n_len (by decide +kernel) (da_cons (de_var (pv 0)) da_nil)) (nomark _)) (dss_one (ds_ret (de_ix ix_D (de_var (pv 0)) (de_var (pv 1)) (fun _ _ => rfl)))) dss_nil)
      (dss_one (ds_ret de_int)))) fun ds _ => .inr rfl
def g_law_mixed : Sls → Out :=
    (gSeq (gSet 2 (d2 modD (dL intXD (dCons (d2 addD (d2 addD (d2 mulVD (dVar 0) (fun _ => .ok (.int 48271))) (d2 mulVD (dVar 1) (fun _ => .ok (.int 69621)))) (fun _ => .ok (.int 11))) dNil)) (fun _ => .ok (.int 2147483647))))
    (gRet (d2 modD (dL intXD (dCons (d2 addD (d2 addD (d2 mulVD (dVar 2) (fun _ => .ok (.int 16807))) (d2 mulVD (dVar 1) (fun _ => .ok (.int 7919)))) (d2 fdivD (dVar 2) (fun _ => .ok (.int 127773)))) dNil)) (fun _ => .ok (.int 2147483629)))))
@[simp] theorem st_law_mixed (x0 x1 : PyData) : st0 n_law_mixed [x0, x1] = [.val x0, .val x1, .un] := rfl
def m_law_mixed (ds : List PyData) : Res PyData := outR (g_law_mixed (st0 n_law_mixed ds))
theorem D_law_mixed {P : Program} {w : World} {K : PySem.W.Frag} {mg : Str → Option Value} {base : Heap} (T : Tx w K mg) : FnD P w K mg base 1 T.a_law_mixed T.d_law_mixed ["cell", "k"] m_law_mixed :=
  fn_D (g := g_law_mixed) T.F_law_mixed sc_law_mixed (by decide) (fun cdv A outer s H E Fz c =>
      (dss_cons (ds_set nd_law_mixed (i := 2) rfl (by first | exact .inl rfl | exact .inr rfl) (de_bin op_modD (de_callTy call_intX (by rfl) T.n_int (by decide +kernel) (da_cons (de_bin op_addD (de_bin op_addD (de_bin op_mulV (de_var (pv 0)) de_int) (de_bin op_mulV (de_var (pv 1)) de_int)) de_int) da_nil)) de_int))
      (dss_one (ds_ret (de_bin op_modD (de_callTy call_intX (by rfl) T.n_int (by decide +kernel) (da_cons (de_bin op_addD (de_bin op_addD (de_bin op_mulV (de_var (pv 2)) de_int) (de_bin op_mulV (de_var (pv 1)) de_int)) (de_bin op_fdivD (de_var (pv 2)) de_int)) da_nil)) de_int))))) fun ds _ => .inr rfl
def b1_law_draws : Sls → Out :=
    (gIf (dAnd (dTru (dVar 4)) (dB (d2 gtV (dVar 3) (fun _ => .ok (.int 0)))))
    (gSeq (gApp 2 (d2 modD (dL intXD (dCons (dVar 3) dNil)) (d2 powD (fun _ => .ok (.int 10)) (fun _ => .ok (.int 7)))))
    (gSet 3 (d2 fdivD (dVar 3) (d2 powD (fun _ => .ok (.int 10)) (fun _ => .ok (.int 7))))))
    (gApp 2 (dCall m_law_mixed (dCons (dVar 0) (dCons (dVar 5) dNil)))))
def g_law_draws : Sls → Out :=
    (gSeq (gSetN 2 (dDisp dNil))
    (gSeq (gSet 3 (dL absD (dCons (dVar 0) dNil)))
    (gSeq (gSet 4 (d2 geD (dVar 3) (d2 powD (fun _ => .ok (.int 10)) (fun _ => .ok (.int 18)))))
    (gSeq (gFor (dRng rng1 (dCons (dVar 1) dNil)) (bName 5)
    b1_law_draws)
    (gBefore 2 (gRet (dVar 2)))))))
@[simp] theorem st_law_draws (x0 x1 : PyData) : st0 n_law_draws [x0, x1] = [.val x0, .val x1, .un, .un, .un, .un] := rfl
def m_law_draws (ds : List PyData) : Res PyData := outR (g_law_draws (st0 n_law_draws ds))
theorem D_law_draws {P : Program} {w : World} {K : PySem.W.Frag} {mg : Str → Option Value} {base : Heap} (T : Tx w K mg) : FnD P w K mg base 2 T.a_law_draws T.d_law_draws ["cell", "many"] m_law_draws :=
  have D_law_mixed := D_law_mixed (P := P) (w := w) (base := base) T
  fn_D (g := g_law_draws) T.F_law_draws sc_law_draws (by decide) (fun cdv A outer s H E Fz c =>
      (dss_cons (ds_setN nd_law_draws (i := 2) rfl (by first | exact .inl rfl | exact .inr rfl) (dn_lst da_nil))
      (dss_cons (ds_set nd_law_draws (i := 3) rfl (by first | exact .inl rfl | exact .inr rfl) (de_callB call_absV (by rfl) T.n_abs (by decide +kernel) (da_cons (de_var (pv 0)) da_nil)))
      (dss_cons (ds_set nd_law_draws (i := 4) rfl (by first | exact .inl rfl | exact .inr rfl) (de_cmp op_geD (de_var (pv 3)) (de_bin op_powD de_int de_int) (nomark _)))
      (dss_cons (ds_for c (di_range1 (by rfl) T.n_range (da_cons (de_var (pv 1)) da_nil)) (dg_name nd_law_draws (i := 5) rfl (by first | exact .inl rfl | exact .inr rfl)) (dss_one (ds_if (DW.dt (dw_and (dt_truth (de_var (pv 4))) (dw_and1 (dt_cmp (op_gtV c.room.units) (de_var (pv 3)) de_int (nomark _))))) (dss_cons (ds_append (pv 2) (de_bin op_modD (de_callTy call_intX (by rfl) T.n_int (by decide +kernel) (da_cons (de_var (pv 3)) da_nil)) (de_bin op_powD de_int de_int)))
      (dss_one (ds_set nd_law_draws (i := 3) rfl (by first | exact .inl rfl | exact .inr rfl) (de_bin op_fdivD (de_var (pv 3)) (de_bin op_powD de_int de_int))))) (dss_one (ds_append (pv 2) (de_call D_law_mixed c (by decide) (by rfl) T.g_law_mixed T.F_law_mixed.kp T.b_law_mixed (da_cons (de_var (pv 0)) (da_cons (de_var (pv 5)) da_nil)) (dCons_len (dCons_len nil_len))))))))
      (dss_one (DS.frz 2 (ds_ret (de_var (pv 2)))))))))) fun ds _ => .inr rfl
def g_law_signs : Sls → Out :=
    (gSeq (gSet 0 (fun _ => .ok (.str (Str.ofString " !\"#$&'()*+,-./0123456789:;<=>?@ABCDEFGHIJKLMNOPQRSTUVWXYZ[\\]^_`"))))
    (gRet (d2 addD (dVar 0) (fun _ => .ok (.str (Str.ofString "abcdefghijklmnopqrstuvwxyz{|}~"))))))
@[simp] theorem st_law_signs  : st0 n_law_signs [] = [.un] := rfl
def m_law_signs (ds : List PyData) : Res PyData := outR (g_law_signs (st0 n_law_signs ds))
theorem D_law_signs {P : Program} {w : World} {K : PySem.W.Frag} {mg : Str → Option Value} {base : Heap} (T : Tx w K mg) : FnD P w K mg base 1 T.a_law_signs T.d_law_signs [] m_law_signs :=
  fn_D (g := g_law_signs) T.F_law_signs sc_law_signs (by decide) (fun cdv A outer s H E Fz c =>
      (dss_cons (ds_set nd_law_signs (i := 0) rfl (by first | exact .inl rfl | exact .inr rfl) de_str)
      (dss_one (ds_ret (de_bin op_addD (de_var (pv 0)) de_str))))) fun ds _ => .inr rfl
def g_law_is : Sls → Out :=
    (gSeq (gIf (dB (d2 isD (dVar 1) (fun _ => .ok .none)))
    (gRet (d2 isD (dVar 0) (fun _ => .ok .none)))
    gNext)
    (gSeq (gIf (dTru (d1 (isi1 isTuple) (dVar 1)))
    (gRet (dAndV (d1 (isi1 isTuple) (dVar 0)) (dAndV (d2 eqD (dL lenD (dCons (dVar 0) dNil)) (fun _ => .ok (.int 2))) (dAndV (d2 eqD (dVar 0) (dVar 1)) (d1 notD (d1 (isi1 isBool) (d2 ixD (dVar 0) (fun _ => .ok (.int 1)))))))))
    gNext)
    (gSeq (gIf (dTru (d1 (isi1 isBool) (dVar 1)))
    (gRet (dAndV (d1 (isi1 isBool) (dVar 0)) (d2 eqD (dVar 0) (dVar 1))))
    gNext)
    (gSeq (gIf (dTru (d1 (isi1 isInt) (dVar 1)))
    (gRet (dAndV (d1 (isi1 isInt) (dVar 0)) (dAndV (d1 notD (d1 (isi1 isBool) (dVar 0))) (d2 eqD (dVar 0) (dVar 1)))))
    gNext)
    (gRet (dAndV (d1 (isi1 isStr) (dVar 0)) (d2 eqD (dVar 0) (dVar 1))))))))
@[simp] theorem st_law_is (x0 x1 : PyData) : st0 n_law_is [x0, x1] = [.val x0, .val x1] := rfl
def m_law_is (ds : List PyData) : Res PyData := outR (g_law_is (st0 n_law_is ds))
theorem D_law_is {P : Program} {w : World} {K : PySem.W.Frag} {mg : Str → Option Value} {base : Heap} (T : Tx w K mg) : FnD P w K mg base 1 T.a_law_is T.d_law_is ["actual", "due"] m_law_is :=
  fn_D (g := g_law_is) T.F_law_is sc_law_is (by decide) (fun cdv A outer s H E Fz c =>
      (dss_cons (ds_if (dt_cmp op_isD (de_var (pv 1)) de_non (nomark _)) (dss_one (ds_ret (de_cmp op_isD (de_var (pv 0)) de_non (nomark _)))) dss_nil)
      (dss_cons (ds_if (dt_truth (de_isi isi_tuple (by rfl) T.n_isinstance (by decide +kernel) (by rfl) T.n_tuple (by decide +kernel) (de_var (pv 1)))) (dss_one (ds_ret (de_and (de_isi isi_tuple (by rfl) T.n_isinstance (by decide +kernel) (by rfl) T.n_tuple (by decide +kernel) (de_var (pv 0))) (de_and (de_cmp (op_eqV c.room.units) (de_callB call_lenV (by rfl) T.n_len (by decide +kernel) (da_cons (de_var (pv 0)) da_nil)) de_int (nomark _)) (de_and (de_cmp (op_eqV c.room.units) (de_var (pv 0)) (de_var (pv 1)) (nomark _)) (de_one (de_not (de_isi isi_bool (by rfl) T.n_isinstance (by decide +kernel) (by rfl) T.n_bool (by decide +kernel) (de_ix ix_D (de_var (pv 0)) de_int (fun _ _ => rfl)))))))))) dss_nil)
      (dss_cons (ds_if (dt_truth (de_isi isi_bool (by rfl) T.n_isinstance (by decide +kernel) (by rfl) T.n_bool (by decide +kernel) (de_var (pv 1)))) (dss_one (ds_ret (de_and (de_isi isi_bool (by rfl) T.n_isinstance (by decide +kernel) (by rfl) T.n_bool (by decide +kernel) (de_var (pv 0))) (de_one (de_cmp (op_eqV c.room.units) (de_var (pv 0)) (de_var (pv 1)) (nomark _)))))) dss_nil)
      (dss_cons (ds_if (dt_truth (de_isi isi_int (by rfl) T.n_isinstance (by decide +kernel) (by rfl) T.n_int (by decide +kernel) (de_var (pv 1)))) (dss_one (ds_ret (de_and (de_isi isi_int (by rfl) T.n_isinstance (by decide +kernel) (by rfl) T.n_int (by decide +kernel) (de_var (pv 0))) (de_and (de_not (de_isi isi_bool (by rfl) T.n_isinstance (by decide +kernel) (by rfl) T.n_bool (by decide +kernel) (de_var (pv 0)))) (de_one (de_cmp (op_eqV c.room.units) (de_var (pv 0)) (de_var (pv 1)) (nomark _))))))) dss_nil)
      (dss_one (ds_ret (de_and (de_isi isi_str (by rfl) T.n_isinstance (by decide +kernel) (by rfl) T.n_str (by decide +kernel) (de_var (pv 0))) (de_one (de_cmp (op_eqV c.room.units) (de_var (pv 0)) (de_var (pv 1)) (nomark _))))))))))) fun ds _ => .inr rfl
def b1_law_strict : Sls → Out :=
    (gSeq (gIf (dB (d2 isD (dVar 2) (fun _ => .ok .none)))
    (gRet (dL tupD (dCons (fun _ => .ok (.bool true)) (dCons (fun _ => .ok .none) dNil))))
    gNext)
    (gIf (dTru (d1 (isi1 isTuple) (dVar 2)))
    (gApp 1 (d2 ixD (dVar 2) (fun _ => .ok (.int 1))))
    gNext))
def g_law_strict : Sls → Out :=
    (gSeq (gSetN 1 (dDisp dNil))
    (gSeq (gFor (dItems (dVar 0)) (bName 2)
    b1_law_strict)
    (gSeq (gBefore 1 (gIf (dB (d2 neD (dVar 1) (dFr (dDisp dNil))))
    (gBefore 1 (gRet (dL tupD (dCons (fun _ => .ok (.bool true)) (dCons (dL tupD (dCons (fun _ => .ok (.str (Str.ofString "fault"))) (dCons (dL minLD (dCons (dVar 1) dNil)) dNil))) dNil)))))
    gNext))
    (gRet (dL tupD (dCons (fun _ => .ok (.bool false)) (dCons (fun _ => .ok .none) dNil)))))))
@[simp] theorem st_law_strict (x0 : PyData) : st0 n_law_strict [x0] = [.val x0, .un, .un] := rfl
def m_law_strict (ds : List PyData) : Res PyData := outR (g_law_strict (st0 n_law_strict ds))
theorem D_law_strict {P : Program} {w : World} {K : PySem.W.Frag} {mg : Str → Option Value} {base : Heap} (T : Tx w K mg) : FnD P w K mg base 1 T.a_law_strict T.d_law_strict ["args"] m_law_strict :=
  fn_D (g := g_law_strict) T.F_law_strict sc_law_strict (by decide) (fun cdv A outer s H E Fz c =>
      (dss_cons (ds_setN nd_law_strict (i := 1) rfl (by first | exact .inl rfl | exact .inr rfl) (dn_lst da_nil))
      (dss_cons (ds_for c (di_any (de_var (pv 0))) (dg_name nd_law_strict (i := 2) rfl (by first | exact .inl rfl | exact .inr rfl)) (dss_cons (ds_if (dt_cmp op_isD (de_var (pv 2)) de_non (nomark _)) (dss_one (ds_ret (de_tup (da_cons de_bl (da_cons de_non da_nil))))) dss_nil)
      (dss_one (ds_if (dt_truth (de_isi isi_tuple (by rfl) T.n_isinstance (by decide +kernel) (by rfl) T.n_tuple (by decide +kernel) (de_var (pv 2)))) (dss_one (ds_append (pv 1) (de_ix ix_D (de_var (pv 2)) de_int (fun _ _ => rfl)))) dss_nil))))
      (dss_cons (DS.frz 1 (ds_if (dt_cmp (op_neV c.room.units) (de_var (pv 1)) (DN.de (dn_lst da_nil)) (nomark _)) (dss_one (DS.frz 1 (ds_ret (de_tup (da_cons de_bl (da_cons (de_tup (da_cons de_str (da_cons (de_callB (call_minLV c.calm) (by rfl) T.n_min (by decide +kernel) (da_cons (de_var (pv 1)) da_nil)) da_nil))) da_nil)))))) dss_nil))
      (dss_one (ds_ret (de_tup (da_cons de_bl (da_cons de_non da_nil))))))))) fun ds _ => .inr rfl
def g_law_arg : Sls → Out :=
    (gSeq (gIf (dB (d2 eqD (d2 modD (dL intXD (dCons (dVar 1) dNil)) (fun _ => .ok (.int 9))) (fun _ => .ok (.int 0))))
    (gRet (fun _ => .ok .none))
    gNext)
    (gSeq (gIf (dB (d2 eqD (d2 modD (dL intXD (dCons (dVar 1) dNil)) (fun _ => .ok (.int 9))) (fun _ => .ok (.int 1))))
    (gRet (dL tupD (dCons (fun _ => .ok (.str (Str.ofString "fault"))) (dCons (d2 addD (fun _ => .ok (.int 1)) (d2 modD (d2 fdivD (dL intXD (dCons (dVar 1) dNil)) (fun _ => .ok (.int 9))) (fun _ => .ok (.int 4)))) dNil))))
    gNext)
    (gRet (dVar 0))))
@[simp] theorem st_law_arg (x0 x1 : PyData) : st0 n_law_arg [x0, x1] = [.val x0, .val x1] := rfl
def m_law_arg (ds : List PyData) : Res PyData := outR (g_law_arg (st0 n_law_arg ds))
theorem D_law_arg {P : Program} {w : World} {K : PySem.W.Frag} {mg : Str → Option Value} {base : Heap} (T : Tx w K mg) : FnD P w K mg base 1 T.a_law_arg T.d_law_arg ["x", "draw"] m_law_arg :=
  fn_D (g := g_law_arg) T.F_law_arg sc_law_arg (by decide) (fun cdv A outer s H E Fz c =>
      (dss_cons (ds_if (dt_cmp (op_eqV c.room.units) (de_bin op_modD (de_callTy call_intX (by rfl) T.n_int (by decide +kernel) (da_cons (de_var (pv 1)) da_nil)) de_int) de_int (nomark _)) (dss_one (ds_ret de_non)) dss_nil)
      (dss_cons (ds_if (dt_cmp (op_eqV c.room.units) (de_bin op_modD (de_callTy call_intX (by rfl) T.n_int (by decide +kernel) (da_cons (de_var (pv 1)) da_nil)) de_int) de_int (nomark _)) (dss_one (ds_ret (de_tup (da_cons de_str (da_cons (de_bin op_addD de_int (de_bin op_modD (de_bin op_fdivD (de_callTy call_intX (by rfl) T.n_int (by decide +kernel) (da_cons (de_var (pv 1)) da_nil)) de_int) de_int)) da_nil))))) dss_nil)
      (dss_one (ds_ret (de_var (pv 0))))))) fun ds _ => .inr rfl
def b1_law_fits : Sls → Out :=
    (gApp 2 (fun _ => .ok (.bool false)))
def b2_law_fits : Sls → Out :=
    (gIf (dB (d2 eqD (dVar 4) (fun _ => .ok (.str (Str.ofString "*")))))
    (gBefore 2 (gApp 5 (dBrw 5 (dOrV (d2 ixD (dVar 5) (dVar 6)) (d2 ixD (dVar 2) (d2 addD (dVar 6) (fun _ => .ok (.int 1))))))))
    (gBefore 2 (gApp 5 (dAndV (d2 ixD (dVar 2) (dVar 6)) (dOrV (d2 eqD (dVar 4) (fun _ => .ok (.str (Str.ofString "?")))) (d2 eqD (dVar 4) (d2 ixD (dVar 0) (dVar 6))))))))
def b3_law_fits : Sls → Out :=
    (gSeq (gBefore 2 (gSetN 5 (dDisp (dCons (dAndV (d2 ixD (dVar 2) (fun _ => .ok (.int 0))) (d2 eqD (dVar 4) (fun _ => .ok (.str (Str.ofString "*"))))) dNil))))
    (gSeq (gFor (dRng rng1 (dCons (dL lenD (dCons (dVar 0) dNil)) dNil)) (bName 6)
    b2_law_fits)
    (gBefore 5 (gSet 2 (dVar 5)))))
def g_law_fits : Sls → Out :=
    (gSeq (gSetN 2 (dDisp (dCons (fun _ => .ok (.bool true)) dNil)))
    (gSeq (gFor (dItems (dVar 0)) (bName 3)
    b1_law_fits)
    (gSeq (gFor (dItems (dVar 1)) (bName 4)
    b3_law_fits)
    (gBefore 2 (gRet (d2 ixD (dVar 2) (dL lenD (dCons (dVar 0) dNil))))))))
@[simp] theorem st_law_fits (x0 x1 : PyData) : st0 n_law_fits [x0, x1] = [.val x0, .val x1, .un, .un, .un, .un, .un] := rfl
def m_law_fits (ds : List PyData) : Res PyData := outR (g_law_fits (st0 n_law_fits ds))
theorem D_law_fits {P : Program} {w : World} {K : PySem.W.Frag} {mg : Str → Option Value} {base : Heap} (T : Tx w K mg) : FnD P w K mg base 1 T.a_law_fits T.d_law_fits ["text", "pattern"] m_law_fits :=
  fn_D (g := g_law_fits) T.F_law_fits sc_law_fits (by decide) (fun cdv A outer s H E Fz c =>
      (dss_cons (ds_setN nd_law_fits (i := 2) rfl (by first | exact .inl rfl | exact .inr rfl) (dn_lst (da_cons de_bl da_nil)))
      (dss_cons (ds_for c (di_any (de_var (pv 0))) (dg_name nd_law_fits (i := 3) rfl (by first | exact .inl rfl | exact .inr rfl)) (dss_one (ds_append (pv 2) de_bl)))
      (dss_cons (ds_for c (di_any (de_var (pv 1))) (dg_name nd_law_fits (i := 4) rfl (by first | exact .inl rfl | exact .inr rfl)) (dss_cons (DS.frz 2 (ds_setN nd_law_fits (i := 5) rfl (by first | exact .inl rfl | exact .inr rfl) (dn_lst (da_cons (de_and (de_ix ix_D (de_var (pv 2)) de_int (fun _ _ => rfl)) (de_one (de_cmp (op_eqV c.room.units) (de_var (pv 4)) de_str (nomark _)))) da_nil))))
      (dss_cons (ds_for c (di_range1 (by rfl) T.n_range (da_cons (de_callB call_lenV (by rfl) T.n_len (by decide +kernel) (da_cons (de_var (pv 0)) da_nil)) da_nil)) (dg_name nd_law_fits (i := 6) rfl (by first | exact .inl rfl | exact .inr rfl)) (dss_one (ds_if (dt_cmp (op_eqV c.room.units) (de_var (pv 4)) de_str (nomark _)) (dss_one (DS.frz 2 (ds_append (pv 5) (DE.brw 5 (de_or (de_ix ix_D (de_var (pv 5)) (de_var (pv 6)) (fun _ _ => rfl)) (de_one (de_ix ix_D (de_var (pv 2)) (de_bin op_addD (de_var (pv 6)) de_int) (fun _ _ => rfl)))))))) (dss_one (DS.frz 2 (ds_append (pv 5) (de_and (de_ix ix_D (de_var (pv 2)) (de_var (pv 6)) (fun _ _ => rfl)) (de_one (de_or (de_cmp (op_eqV c.room.units) (de_var (pv 4)) de_str (nomark _)) (de_one (de_cmp (op_eqV c.room.units) (de_var (pv 4)) (de_ix ix_D (de_var (pv 0)) (de_var (pv 6)) (fun _ _ => rfl)) (nomark _))))))))))))
      (dss_one (DS.frz 5 (ds_set nd_law_fits (i := 2) rfl (by first | exact .inl rfl | exact .inr rfl) (de_var (pv 5))))))))
      (dss_one (DS.frz 2 (ds_ret (de_ix ix_D (de_var (pv 2)) (de_callB call_lenV (by rfl) T.n_len (by decide +kernel) (da_cons (de_var (pv 0)) da_nil)) (fun _ _ => rfl))))))))) fun ds _ => .inr rfl
def b1_law_pattern : Sls → Out :=
    (gSet 3 (d2 addD (dVar 3) (d2 ixD (dVar 2) (d2 modD (dL intXD (dCons (d2 addD (d2 ixD (dVar 0) (d2 addD (fun _ => .ok (.int 1)) (d2 modD (dVar 4) (fun _ => .ok (.int 12))))) (d2 mulVD (d2 fdivD (dVar 4) (fun _ => .ok (.int 12))) (fun _ => .ok (.int 5)))) dNil)) (fun _ => .ok (.int 7))))))
def g_law_pattern : Sls → Out :=
    (gSeq (gSet 2 (d2 addD (fun _ => .ok (.str (Str.ofString "ab*?*a"))) (d2 ixD (fun _ => m_law_signs []) (d2 modD (dL intXD (dCons (d2 ixD (dVar 0) (fun _ => .ok (.int 0))) dNil)) (fun _ => .ok (.int 94))))))
    (gSeq (gSet 3 (fun _ => .ok (.str (Str.ofString ""))))
    (gSeq (gFor (dRng rng1 (dCons (dVar 1) dNil)) (bName 4)
    b1_law_pattern)
    (gRet (dVar 3)))))
@[simp] theorem st_law_pattern (x0 x1 : PyData) : st0 n_law_pattern [x0, x1] = [.val x0, .val x1, .un, .un, .un] := rfl
def m_law_pattern (ds : List PyData) : Res PyData := outR (g_law_pattern (st0 n_law_pattern ds))
theorem D_law_pattern {P : Program} {w : World} {K : PySem.W.Frag} {mg : Str → Option Value} {base : Heap} (T : Tx w K mg) : FnD P w K mg base 2 T.a_law_pattern T.d_law_pattern ["draws", "size"] m_law_pattern :=
  have D_law_signs := D_law_signs (P := P) (w := w) (base := base) T
  fn_D (g := g_law_pattern) T.F_law_pattern sc_law_pattern (by decide) (fun cdv A outer s H E Fz c =>
      (dss_cons (ds_set nd_law_pattern (i := 2) rfl (by first | exact .inl rfl | exact .inr rfl) (de_bin op_addD de_str (de_ix ix_D (de_call0 D_law_signs c (by decide) (by rfl) T.g_law_signs T.F_law_signs.kp T.b_law_signs) (de_bin op_modD (de_callTy call_intX (by rfl) T.n_int (by decide +kernel) (da_cons (de_ix ix_D (de_var (pv 0)) de_int (fun _ _ => rfl)) da_nil)) de_int) (fun _ _ => rfl))))
      (dss_cons (ds_set nd_law_pattern (i := 3) rfl (by first | exact .inl rfl | exact .inr rfl) de_str)
      (dss_cons (ds_for c (di_range1 (by rfl) T.n_range (da_cons (de_var (pv 1)) da_nil)) (dg_name nd_law_pattern (i := 4) rfl (by first | exact .inl rfl | exact .inr rfl)) (dss_one (ds_set nd_law_pattern (i := 3) rfl (by first | exact .inl rfl | exact .inr rfl) (de_bin op_addD (de_var (pv 3)) (de_ix ix_D (de_var (pv 2)) (de_bin op_modD (de_callTy call_intX (by rfl) T.n_int (by decide +kernel) (da_cons (de_bin op_addD (de_ix ix_D (de_var (pv 0)) (de_bin op_addD de_int (de_bin op_modD (de_var (pv 4)) de_int)) (fun _ _ => rfl)) (de_bin op_mulV (de_bin op_fdivD (de_var (pv 4)) de_int) de_int)) da_nil)) de_int) (fun _ _ => rfl))))))
      (dss_one (ds_ret (de_var (pv 3)))))))) fun ds _ => .inr rfl
def b1_law_filled : Sls → Out :=
    (gSet 3 (d2 addD (dVar 3) (d2 ixD (dVar 2) (d2 modD (dL intXD (dCons (d2 addD (d2 fdivD (dVar 5) (fun _ => .ok (.int 4))) (dVar 6)) dNil)) (fun _ => .ok (.int 5))))))
def b2_law_filled : Sls → Out :=
    (gSeq (gSet 5 (d2 addD (d2 fdivD (dL intXD (dCons (d2 ixD (dVar 0) (d2 addD (fun _ => .ok (.int 2)) (d2 modD (dVar 4) (fun _ => .ok (.int 12))))) dNil)) (fun _ => .ok (.int 7))) (dVar 4)))
    (gIf (dB (d2 eqD (d2 ixD (dVar 1) (dVar 4)) (fun _ => .ok (.str (Str.ofString "*")))))
    (gFor (dRng rng1 (dCons (d2 modD (dVar 5) (fun _ => .ok (.int 4))) dNil)) (bName 6)
    b1_law_filled)
    (gIf (dB (d2 eqD (d2 ixD (dVar 1) (dVar 4)) (fun _ => .ok (.str (Str.ofString "?")))))
    (gSet 3 (d2 addD (dVar 3) (d2 ixD (dVar 2) (d2 modD (dL intXD (dCons (dVar 5) dNil)) (fun _ => .ok (.int 5))))))
    (gSet 3 (d2 addD (dVar 3) (d2 ixD (dVar 1) (dVar 4)))))))
def g_law_filled : Sls → Out :=
    (gSeq (gSet 2 (d2 addD (fun _ => .ok (.str (Str.ofString "abab"))) (d2 ixD (fun _ => m_law_signs []) (d2 modD (dL intXD (dCons (d2 ixD (dVar 0) (fun _ => .ok (.int 1))) dNil)) (fun _ => .ok (.int 94))))))
    (gSeq (gSet 3 (fun _ => .ok (.str (Str.ofString ""))))
    (gSeq (gFor (dRng rng1 (dCons (dL lenD (dCons (dVar 1) dNil)) dNil)) (bName 4)
    b2_law_filled)
    (gRet (dVar 3)))))
@[simp] theorem st_law_filled (x0 x1 : PyData) : st0 n_law_filled [x0, x1] = [.val x0, .val x1, .un, .un, .un, .un, .un] := rfl
def m_law_filled (ds : List PyData) : Res PyData := outR (g_law_filled (st0 n_law_filled ds))
theorem D_law_filled {P : Program} {w : World} {K : PySem.W.Frag} {mg : Str → Option Value} {base : Heap} (T : Tx w K mg) : FnD P w K mg base 2 T.a_law_filled T.d_law_filled ["draws", "pattern"] m_law_filled :=
  have D_law_signs := D_law_signs (P := P) (w := w) (base := base) T
  fn_D (g := g_law_filled) T.F_law_filled sc_law_filled (by decide) (fun cdv A outer s H E Fz c =>
      (dss_cons (ds_set nd_law_filled (i := 2) rfl (by first | exact .inl rfl | exact .inr rfl) (de_bin op_addD de_str (de_ix ix_D (de_call0 D_law_signs c (by decide) (by rfl) T.g_law_signs T.F_law_signs.kp T.b_law_signs) (de_bin op_modD (de_callTy call_intX (by rfl) T.n_int (by decide +kernel) (da_cons (de_ix ix_D (de_var (pv 0)) de_int (fun _ _ => rfl)) da_nil)) de_int) (fun _ _ => rfl))))
      (dss_cons (ds_set nd_law_filled (i := 3) rfl (by first | exact .inl rfl | exact .inr rfl) de_str)
      (dss_cons (ds_for c (di_range1 (by rfl) T.n_range (da_cons (de_callB call_lenV (by rfl) T.n_len (by decide +kernel) (da_cons (de_var (pv 1)) da_nil)) da_nil)) (dg_name nd_law_filled (i := 4) rfl (by first | exact .inl rfl | exact .inr rfl)) (dss_cons (ds_set nd_law_filled (i := 5) rfl (by first | exact .inl rfl | exact .inr rfl) (de_bin op_addD (de_bin op_fdivD (de_callTy call_intX (by rfl) T.n_int (by decide +kernel) (da_cons (de_ix ix_D (de_var (pv 0)) (de_bin op_addD de_int (de_bin op_modD (de_var (pv 4)) de_int)) (fun _ _ => rfl)) da_nil)) de_int) (de_var (pv 4))))
      (dss_one (ds_if (dt_cmp (op_eqV c.room.units) (de_ix ix_D (de_var (pv 1)) (de_var (pv 4)) (fun _ _ => rfl)) de_str (nomark _)) (dss_one (ds_for c (di_range1 (by rfl) T.n_range (da_cons (de_bin op_modD (de_var (pv 5)) de_int) da_nil)) (dg_name nd_law_filled (i := 6) rfl (by first | exact .inl rfl | exact .inr rfl)) (dss_one (ds_set nd_law_filled (i := 3) rfl (by first | exact .inl rfl | exact .inr rfl) (de_bin op_addD (de_var (pv 3)) (de_ix ix_D (de_var (pv 2)) (de_bin op_modD (de_callTy call_intX (by rfl) T.n_int (by decide +kernel) (da_cons (de_bin op_addD (de_bin op_fdivD (de_var (pv 5)) de_int) (de_var (pv 6))) da_nil)) de_int) (fun _ _ => rfl))))))) (dss_one (ds_if (dt_cmp (op_eqV c.room.units) (de_ix ix_D (de_var (pv 1)) (de_var (pv 4)) (fun _ _ => rfl)) de_str (nomark _)) (dss_one (ds_set nd_law_filled (i := 3) rfl (by first | exact .inl rfl | exact .inr rfl) (de_bin op_addD (de_var (pv 3)) (de_ix ix_D (de_var (pv 2)) (de_bin op_modD (de_callTy call_intX (by rfl) T.n_int (by decide +kernel) (da_cons (de_var (pv 5)) da_nil)) de_int) (fun _ _ => rfl))))) (dss_one (ds_set nd_law_filled (i := 3) rfl (by first | exact .inl rfl | exact .inr rfl) (de_bin op_addD (de_var (pv 3)) (de_ix ix_D (de_var (pv 1)) (de_var (pv 4)) (fun _ _ => rfl)))))))))))
      (dss_one (ds_ret (de_var (pv 3)))))))) fun ds _ => .inr rfl
def g_law_spoilt : Sls → Out :=
    (gSeq (gSet 2 (d2 modD (dL intXD (dCons (d2 ixD (dVar 0) (fun _ => .ok (.int 16))) dNil)) (d2 addD (dL lenD (dCons (dVar 1) dNil)) (fun _ => .ok (.int 1)))))
    (gSeq (gSet 3 (d2 ixD (dFr (dDisp (dCons (fun _ => .ok (.str (Str.ofString "a"))) (dCons (fun _ => .ok (.str (Str.ofString "b"))) (dCons (fun _ => .ok (.str (Str.ofString "c"))) (dCons (fun _ => .ok (.str (Str.ofString "*"))) (dCons (fun _ => .ok (.str (Str.ofString "?"))) dNil))))))) (d2 modD (dL intXD (dCons (d2 ixD (dVar 0) (fun _ => .ok (.int 17))) dNil)) (fun _ => .ok (.int 5)))))
    (gSeq (gSet 4 (d2 modD (dL intXD (dCons (d2 ixD (dVar 0) (fun _ => .ok (.int 18))) dNil)) (fun _ => .ok (.int 6))))
    (gSeq (gIf (dB (d2 eqD (dVar 4) (fun _ => .ok (.int 0))))
    (gRet (d2 addD (d2 addD (dSl slD (dVar 1) (fun _ => .ok none) (dPart (dVar 2))) (dVar 3)) (dSl slD (dVar 1) (dPart (d2 addD (dVar 2) (fun _ => .ok (.int 1)))) (fun _ => .ok none))))
    gNext)
    (gSeq (gIf (dB (d2 eqD (dVar 4) (fun _ => .ok (.int 1))))
    (gRet (d2 addD (dSl slD (dVar 1) (fun _ => .ok none) (dPart (dVar 2))) (dSl slD (dVar 1) (dPart (d2 addD (dVar 2) (fun _ => .ok (.int 1)))) (fun _ => .ok none))))
    gNext)
    (gSeq (gIf (dB (d2 eqD (dVar 4) (fun _ => .ok (.int 2))))
    (gRet (d2 addD (d2 addD (dSl slD (dVar 1) (fun _ => .ok none) (dPart (dVar 2))) (dVar 3)) (dSl slD (dVar 1) (dPart (dVar 2)) (fun _ => .ok none))))
    gNext)
    (gRet (dVar 1))))))))
@[simp] theorem st_law_spoilt (x0 x1 : PyData) : st0 n_law_spoilt [x0, x1] = [.val x0, .val x1, .un, .un, .un] := rfl
def m_law_spoilt (ds : List PyData) : Res PyData := outR (g_law_spoilt (st0 n_law_spoilt ds))
theorem D_law_spoilt {P : Program} {w : World} {K : PySem.W.Frag} {mg : Str → Option Value} {base : Heap} (T : Tx w K mg) : FnD P w K mg base 1 T.a_law_spoilt T.d_law_spoilt ["draws", "text"] m_law_spoilt :=
  fn_D (g := g_law_spoilt) T.F_law_spoilt sc_law_spoilt (by decide) (fun cdv A outer s H E Fz c =>
      (dss_cons (ds_set nd_law_spoilt (i := 2) rfl (by first | exact .inl rfl | exact .inr rfl) (de_bin op_modD (de_callTy call_intX (by rfl) T.n_int (by decide +kernel) (da_cons (de_ix ix_D (de_var (pv 0)) de_int (fun _ _ => rfl)) da_nil)) (de_bin op_addD (de_callB call_lenV (by rfl) T.n_len (by decide +kernel) (da_cons (de_var (pv 1)) da_nil)) de_int)))
      (dss_cons (ds_set nd_law_spoilt (i := 3) rfl (by first | exact .inl rfl | exact .inr rfl) (de_ix ix_D (DN.de (dn_lst (da_cons de_str (da_cons de_str (da_cons de_str (da_cons de_str (da_cons de_str da_nil))))))) (de_bin op_modD (de_callTy call_intX (by rfl) T.n_int (by decide +kernel) (da_cons (de_ix ix_D (de_var (pv 0)) de_int (fun _ _ => rfl)) da_nil)) de_int) (fun _ _ => rfl)))
      (dss_cons (ds_set nd_law_spoilt (i := 4) rfl (by first | exact .inl rfl | exact .inr rfl) (de_bin op_modD (de_callTy call_intX (by rfl) T.n_int (by decide +kernel) (da_cons (de_ix ix_D (de_var (pv 0)) de_int (fun _ _ => rfl)) da_nil)) de_int))
      (dss_cons (ds_if (dt_cmp (op_eqV c.room.units) (de_var (pv 4)) de_int (nomark _)) (dss_one (ds_ret (de_bin op_addD (de_bin op_addD (de_slice sl_D (de_var (pv 1)) do_none (do_some (de_var (pv 2)))) (de_var (pv 3))) (de_slice sl_D (de_var (pv 1)) (do_some (de_bin op_addD (de_var (pv 2)) de_int)) do_none)))) dss_nil)
      (dss_cons (ds_if (dt_cmp (op_eqV c.room.units) (de_var (pv 4)) de_int (nomark _)) (dss_one (ds_ret (de_bin op_addD (de_slice sl_D (de_var (pv 1)) do_none (do_some (de_var (pv 2)))) (de_slice sl_D (de_var (pv 1)) (do_some (de_bin op_addD (de_var (pv 2)) de_int)) do_none)))) dss_nil)
      (dss_cons (ds_if (dt_cmp (op_eqV c.room.units) (de_var (pv 4)) de_int (nomark _)) (dss_one (ds_ret (de_bin op_addD (de_bin op_addD (de_slice sl_D (de_var (pv 1)) do_none (do_some (de_var (pv 2)))) (de_var (pv 3))) (de_slice sl_D (de_var (pv 1)) (do_some (de_var (pv 2))) do_none)))) dss_nil)
      (dss_one (ds_ret (de_var (pv 1))))))))))) fun ds _ => .inr rfl
def b1_law : Sls → Out :=
    (gSeq (gSet 2 (dCall m_law_draws (dCons (dCall m_law_cell (dCons (dVar 0) (dCons (dVar 1) dNil))) (dCons (fun _ => .ok (.int 21)) dNil))))
    (gSeq (gSet 3 (d2 modD (dL intXD (dCons (d2 ixD (dVar 2) (fun _ => .ok (.int 15))) dNil)) (fun _ => .ok (.int 13))))
    (gSeq (gIf (dB (d2 eqD (d2 modD (dL intXD (dCons (d2 ixD (dVar 2) (fun _ => .ok (.int 19))) dNil)) (fun _ => .ok (.int 8))) (fun _ => .ok (.int 0))))
    (gSet 3 (fun _ => .ok (.int 40)))
    gNext)
    (gSeq (gSet 4 (dCall m_law_pattern (dCons (dVar 2) (dCons (dVar 3) dNil))))
    (gSeq (gSet 5 (dCall m_law_spoilt (dCons (dVar 2) (dCons (dCall m_law_filled (dCons (dVar 2) (dCons (dVar 4) dNil))) dNil))))
    (gSeq (gSet 6 (dL tupD (dCons (dCall m_law_arg (dCons (dVar 5) (dCons (d2 ixD (dVar 2) (fun _ => .ok (.int 20))) dNil))) (dCons (dCall m_law_arg (dCons (dVar 4) (dCons (d2 fdivD (d2 ixD (dVar 2) (fun _ => .ok (.int 20))) (fun _ => .ok (.int 9))) dNil))) dNil))))
    (gSeq (gSet 7 (dCall m_law_strict (dCons (dVar 6) dNil)))
    (gSeq (gSet 8 (d2 ixD (dVar 7) (fun _ => .ok (.int 1))))
    (gSeq (gIf (dNot (dTru (d2 ixD (dVar 7) (fun _ => .ok (.int 0)))))
    (gSet 8 (dCall m_law_fits (dCons (d2 ixD (dVar 6) (fun _ => .ok (.int 0))) (dCons (d2 ixD (dVar 6) (fun _ => .ok (.int 1))) dNil))))
    gNext)
    (gIf (dNot (dTru (dCall m_law_is (dCons (dCall m_worked (dCons (fun _ => .ok (.str (Str.ofString "like"))) (dCons (dVar 6) dNil))) (dCons (dVar 8) dNil)))))
    (gRet (fun _ => .ok (.bool false)))
    gNext))))))))))
def g_law : Sls → Out :=
    (gSeq (gFor (dRng rng1 (dCons (dL max2D (dCons (fun _ => .ok (.int 1)) (dCons (dL min2D (dCons (fun _ => .ok (.int 24)) (dCons (dL lenD (dCons (dVar 0) dNil)) dNil))) dNil))) dNil)) (bName 1)
    b1_law)
    (gRet (fun _ => .ok (.bool true))))
@[simp] theorem st_law (x0 : PyData) : st0 n_law [x0] = [.val x0, .un, .un, .un, .un, .un, .un, .un, .un] := rfl
def m_law (ds : List PyData) : Res PyData := outR (g_law (st0 n_law ds))
theorem D_law {P : Program} {w : World} {K : PySem.W.Frag} {mg : Str → Option Value} {base : Heap} (T : Tx w K mg) : FnD P w K mg base 7 T.a_law T.d_law ["script"] m_law :=
  have D_law_draws := D_law_draws (P := P) (w := w) (base := base) T
  have D_law_cell := D_law_cell (P := P) (w := w) (base := base) T
  have D_law_pattern := D_law_pattern (P := P) (w := w) (base := base) T
  have D_law_spoilt := D_law_spoilt (P := P) (w := w) (base := base) T
  have D_law_filled := D_law_filled (P := P) (w := w) (base := base) T
  have D_law_arg := D_law_arg (P := P) (w := w) (base := base) T
  have D_law_strict := D_law_strict (P := P) (w := w) (base := base) T
  have D_law_fits := D_law_fits (P := P) (w := w) (base := base) T
  have D_law_is := D_law_is (P := P) (w := w) (base := base) T
  have D_worked := D_worked (P := P) (w := w) (base := base) T
  fn_D (g := g_law) T.F_law sc_law (by decide) (fun cdv A outer s H E Fz c =>
      (dss_cons (ds_for c (di_range1 (by rfl) T.n_range (da_cons (de_callB (call_max2W c.calm) (by rfl) T.n_max (by decide +kernel) (da_cons de_int (da_cons (de_callB (call_min2W c.calm) (by rfl) T.n_min (by decide +kernel) (da_cons de_int (da_cons (de_callB call_lenV (by rfl) T.n_len (by decide +kernel) (da_cons (de_var (pv 0)) da_nil)) da_nil))) da_nil))) da_nil)) (dg_name nd_law (i := 1) rfl (by first | exact .inl rfl | exact .inr rfl)) (dss_cons (ds_set nd_law (i := 2) rfl (by first | exact .inl rfl | exact .inr rfl) (de_call D_law_draws c (by decide) (by rfl) T.g_law_draws T.F_law_draws.kp T.b_law_draws (da_cons (de_call D_law_cell c (by decide) (by rfl) T.g_law_cell T.F_law_cell.kp T.b_law_cell (da_cons (de_var (pv 0)) (da_cons (de_var (pv 1)) da_nil)) (dCons_len (dCons_len nil_len))) (da_cons de_int da_nil)) (dCons_len (dCons_len nil_len))))
      (dss_cons (ds_set nd_law (i := 3) rfl (by first | exact .inl rfl | exact .inr rfl) (de_bin op_modD (de_callTy call_intX (by rfl) T.n_int (by decide +kernel) (da_cons (de_ix ix_D (de_var (pv 2)) de_int (fun _ _ => rfl)) da_nil)) de_int))
      (dss_cons (ds_if (dt_cmp (op_eqV c.room.units) (de_bin op_modD (de_callTy call_intX (by rfl) T.n_int (by decide +kernel) (da_cons (de_ix ix_D (de_var (pv 2)) de_int (fun _ _ => rfl)) da_nil)) de_int) de_int (nomark _)) (dss_one (ds_set nd_law (i := 3) rfl (by first | exact .inl rfl | exact .inr rfl) de_int)) dss_nil)
      (dss_cons (ds_set nd_law (i := 4) rfl (by first | exact .inl rfl | exact .inr rfl) (de_call D_law_pattern c (by decide) (by rfl) T.g_law_pattern T.F_law_pattern.kp T.b_law_pattern (da_cons (de_var (pv 2)) (da_cons (de_var (pv 3)) da_nil)) (dCons_len (dCons_len nil_len))))
      (dss_cons (ds_set nd_law (i := 5) rfl (by first | exact .inl rfl | exact .inr rfl) (de_call D_law_spoilt c (by decide) (by rfl) T.g_law_spoilt T.F_law_spoilt.kp T.b_law_spoilt (da_cons (de_var (pv 2)) (da_cons (de_call D_law_filled c (by decide) (by rfl) T.g_law_filled T.F_law_filled.kp T.b_law_filled (da_cons (de_var (pv 2)) (da_cons (de_var (pv 4)) da_nil)) (dCons_len (dCons_len nil_len))) da_nil)) (dCons_len (dCons_len nil_len))))
      (dss_cons (ds_set nd_law (i := 6) rfl (by first | exact .inl rfl | exact .inr rfl) (de_tup (da_cons (de_call D_law_arg c (by decide) (by rfl) T.g_law_arg T.F_law_arg.kp T.b_law_arg (da_cons (de_var (pv 5)) (da_cons (de_ix ix_D (de_var (pv 2)) de_int (fun _ _ => rfl)) da_nil)) (dCons_len (dCons_len nil_len))) (da_cons (de_call D_law_arg c (by decide) (by rfl) T.g_law_arg T.F_law_arg.kp T.b_law_arg (da_cons (de_var (pv 4)) (da_cons (de_bin op_fdivD (de_ix ix_D (de_var (pv 2)) de_int (fun _ _ => rfl)) de_int) da_nil)) (dCons_len (dCons_len nil_len))) da_nil))))
      (dss_cons (ds_set nd_law (i := 7) rfl (by first | exact .inl rfl | exact .inr rfl) (de_call D_law_strict c (by decide) (by rfl) T.g_law_strict T.F_law_strict.kp T.b_law_strict (da_cons (de_var (pv 6)) da_nil) (dCons_len nil_len)))
      (dss_cons (ds_set nd_law (i := 8) rfl (by first | exact .inl rfl | exact .inr rfl) (de_ix ix_D (de_var (pv 7)) de_int (fun _ _ => rfl)))
      (dss_cons (ds_if (dt_not (dt_truth (de_ix ix_D (de_var (pv 7)) de_int (fun _ _ => rfl)))) (dss_one (ds_set nd_law (i := 8) rfl (by first | exact .inl rfl | exact .inr rfl) (de_call D_law_fits c (by decide) (by rfl) T.g_law_fits T.F_law_fits.kp T.b_law_fits (da_cons (de_ix ix_D (de_var (pv 6)) de_int (fun _ _ => rfl)) (da_cons (de_ix ix_D (de_var (pv 6)) de_int (fun _ _ => rfl)) da_nil)) (dCons_len (dCons_len nil_len))))) dss_nil)
      (dss_one (ds_if (dt_not (dt_truth (de_call D_law_is c (by decide) (by rfl) T.g_law_is T.F_law_is.kp T.b_law_is (da_cons (de_call D_worked c (by decide) (by rfl) T.g_worked T.F_worked.kp T.b_worked (da_cons de_str (da_cons (de_var (pv 6)) da_nil)) (dCons_len (dCons_len nil_len))) (da_cons (de_var (pv 8)) da_nil)) (dCons_len (dCons_len nil_len))))) (dss_one (ds_ret de_bl)) dss_nil))))))))))))
      (dss_one (ds_ret de_bl)))) fun ds _ => .inr rfl

theorem all_mk {l : PySem.W.OpenLaw} {w : World} {K : PySem.W.Frag} {h : Heap} {mg : Str → Option Value} {fa : Addr} (X : K.In h) (G : h.Ns mainGlobals mg) (hfa : mg "law" = some (.ref fa))
    (pure : ∀ ns : List Int, ns.length ≤ 63 → m_law [.list (ns.map .int)] = .ok (.bool true))
    {fa0 : Addr} {od0 an0 : Option Addr} {sl0 : Array (Option Value)} {oc0 kV0 dc0 pm0 cd0 ct0 : Value}
    {fa1 : Addr} {od1 an1 : Option Addr} {sl1 : Array (Option Value)} {oc1 kV1 dc1 pm1 cd1 ct1 : Value}
    {fa2 : Addr} {od2 an2 : Option Addr} {sl2 : Array (Option Value)} {oc2 kV2 dc2 pm2 cd2 ct2 : Value}
    {fa3 : Addr} {od3 an3 : Option Addr} {sl3 : Array (Option Value)} {oc3 kV3 dc3 pm3 cd3 ct3 : Value}
    {fa4 : Addr} {od4 an4 : Option Addr} {sl4 : Array (Option Value)} {oc4 kV4 dc4 pm4 cd4 ct4 : Value}
    {fa5 : Addr} {od5 an5 : Option Addr} {sl5 : Array (Option Value)} {oc5 kV5 dc5 pm5 cd5 ct5 : Value}
    {fa6 : Addr} {od6 an6 : Option Addr} {sl6 : Array (Option Value)} {oc6 kV6 dc6 pm6 cd6 ct6 : Value}
    {fa7 : Addr} {od7 an7 : Option Addr} {sl7 : Array (Option Value)} {oc7 kV7 dc7 pm7 cd7 ct7 : Value}
    {fa8 : Addr} {od8 an8 : Option Addr} {sl8 : Array (Option Value)} {oc8 kV8 dc8 pm8 cd8 ct8 : Value}
    {fa9 : Addr} {od9 an9 : Option Addr} {sl9 : Array (Option Value)} {oc9 kV9 dc9 pm9 cd9 ct9 : Value}
    {fa10 : Addr} {od10 an10 : Option Addr} {sl10 : Array (Option Value)} {oc10 kV10 dc10 pm10 cd10 ct10 : Value}
    {fa11 : Addr} {od11 an11 : Option Addr} {sl11 : Array (Option Value)} {oc11 kV11 dc11 pm11 cd11 ct11 : Value}
    {fa12 : Addr} {od12 an12 : Option Addr} {sl12 : Array (Option Value)} {oc12 kV12 dc12 pm12 cd12 ct12 : Value}
    {fa13 : Addr} {od13 an13 : Option Addr} {sl13 : Array (Option Value)} {oc13 kV13 dc13 pm13 cd13 ct13 : Value}
    {fa14 : Addr} {od14 an14 : Option Addr} {sl14 : Array (Option Value)} {oc14 kV14 dc14 pm14 cd14 ct14 : Value}
    {fa15 : Addr} {od15 an15 : Option Addr} {sl15 : Array (Option Value)} {oc15 kV15 dc15 pm15 cd15 ct15 : Value}
    {fa16 : Addr} {od16 an16 : Option Addr} {sl16 : Array (Option Value)} {oc16 kV16 dc16 pm16 cd16 ct16 : Value}
    {fa17 : Addr} {od17 an17 : Option Addr} {sl17 : Array (Option Value)} {oc17 kV17 dc17 pm17 cd17 ct17 : Value}
    {fa18 : Addr} {od18 an18 : Option Addr} {sl18 : Array (Option Value)} {oc18 kV18 dc18 pm18 cd18 ct18 : Value}
    {fa19 : Addr} {od19 an19 : Option Addr} {sl19 : Array (Option Value)} {oc19 kV19 dc19 pm19 cd19 ct19 : Value}
    {fa20 : Addr} {od20 an20 : Option Addr} {sl20 : Array (Option Value)} {oc20 kV20 dc20 pm20 cd20 ct20 : Value}
    {fa21 : Addr} {od21 an21 : Option Addr} {sl21 : Array (Option Value)} {oc21 kV21 dc21 pm21 cd21 ct21 : Value}
    {fa22 : Addr} {od22 an22 : Option Addr} {sl22 : Array (Option Value)} {oc22 kV22 dc22 pm22 cd22 ct22 : Value}
    {fa23 : Addr} {od23 an23 : Option Addr} {sl23 : Array (Option Value)} {oc23 kV23 dc23 pm23 cd23 ct23 : Value}
    {fa24 : Addr} {od24 an24 : Option Addr} {sl24 : Array (Option Value)} {oc24 kV24 dc24 pm24 cd24 ct24 : Value}
    {fa25 : Addr} {od25 an25 : Option Addr} {sl25 : Array (Option Value)} {oc25 kV25 dc25 pm25 cd25 ct25 : Value}
    {fa26 : Addr} {od26 an26 : Option Addr} {sl26 : Array (Option Value)} {oc26 kV26 dc26 pm26 cd26 ct26 : Value}
    {fa27 : Addr} {od27 an27 : Option Addr} {sl27 : Array (Option Value)} {oc27 kV27 dc27 pm27 cd27 ct27 : Value}
    {fa28 : Addr} {od28 an28 : Option Addr} {sl28 : Array (Option Value)} {oc28 kV28 dc28 pm28 cd28 ct28 : Value}
    {fa29 : Addr} {od29 an29 : Option Addr} {sl29 : Array (Option Value)} {oc29 kV29 dc29 pm29 cd29 ct29 : Value}
    {fa30 : Addr} {od30 an30 : Option Addr} {sl30 : Array (Option Value)} {oc30 kV30 dc30 pm30 cd30 ct30 : Value}
    {fa31 : Addr} {od31 an31 : Option Addr} {sl31 : Array (Option Value)} {oc31 kV31 dc31 pm31 cd31 ct31 : Value}
    {fa32 : Addr} {od32 an32 : Option Addr} {sl32 : Array (Option Value)} {oc32 kV32 dc32 pm32 cd32 ct32 : Value}
    {fa33 : Addr} {od33 an33 : Option Addr} {sl33 : Array (Option Value)} {oc33 kV33 dc33 pm33 cd33 ct33 : Value}
    {fa34 : Addr} {od34 an34 : Option Addr} {sl34 : Array (Option Value)} {oc34 kV34 dc34 pm34 cd34 ct34 : Value}
    {fa35 : Addr} {od35 an35 : Option Addr} {sl35 : Array (Option Value)} {oc35 kV35 dc35 pm35 cd35 ct35 : Value}
    {fa36 : Addr} {od36 an36 : Option Addr} {sl36 : Array (Option Value)} {oc36 kV36 dc36 pm36 cd36 ct36 : Value}
    {fa37 : Addr} {od37 an37 : Option Addr} {sl37 : Array (Option Value)} {oc37 kV37 dc37 pm37 cd37 ct37 : Value}
    (a0 : PySem.W.nsIn K mainGlobals "matches" = some (some (.ref fa0))) (l0 : K.lookup fa0 = some ⟨oc0, od0, .func (PySem.W.fnOf "matches" "matches" (defArgs s_matches) (defBody s_matches) (defScope s_matches) .none kV0 dc0 pm0 an0 cd0 ct0), sl0⟩) (c0 : PySem.W.codeIn K cd0 "matches" = true) (k0 : PySem.W.keepIn K (.ref fa0) = true)
    (a1 : PySem.W.nsIn K mainGlobals "fault" = some (some (.ref fa1))) (l1 : K.lookup fa1 = some ⟨oc1, od1, .func (PySem.W.fnOf "fault" "fault" (defArgs s_fault) (defBody s_fault) (defScope s_fault) .none kV1 dc1 pm1 an1 cd1 ct1), sl1⟩) (c1 : PySem.W.codeIn K cd1 "fault" = true) (k1 : PySem.W.keepIn K (.ref fa1) = true)
    (a2 : PySem.W.nsIn K mainGlobals "is_fault" = some (some (.ref fa2))) (l2 : K.lookup fa2 = some ⟨oc2, od2, .func (PySem.W.fnOf "is_fault" "is_fault" (defArgs s_is_fault) (defBody s_is_fault) (defScope s_is_fault) .none kV2 dc2 pm2 an2 cd2 ct2), sl2⟩) (c2 : PySem.W.codeIn K cd2 "is_fault" = true) (k2 : PySem.W.keepIn K (.ref fa2) = true)
    (a3 : PySem.W.nsIn K mainGlobals "least_fault" = some (some (.ref fa3))) (l3 : K.lookup fa3 = some ⟨oc3, od3, .func (PySem.W.fnOf "least_fault" "least_fault" (defArgs s_least_fault) (defBody s_least_fault) (defScope s_least_fault) .none kV3 dc3 pm3 an3 cd3 ct3), sl3⟩) (c3 : PySem.W.codeIn K cd3 "least_fault" = true) (k3 : PySem.W.keepIn K (.ref fa3) = true)
    (a4 : PySem.W.nsIn K mainGlobals "value_key" = some (some (.ref fa4))) (l4 : K.lookup fa4 = some ⟨oc4, od4, .func (PySem.W.fnOf "value_key" "value_key" (defArgs s_value_key) (defBody s_value_key) (defScope s_value_key) .none kV4 dc4 pm4 an4 cd4 ct4), sl4⟩) (c4 : PySem.W.codeIn K cd4 "value_key" = true) (k4 : PySem.W.keepIn K (.ref fa4) = true)
    (a5 : PySem.W.nsIn K mainGlobals "order" = some (some (.ref fa5))) (l5 : K.lookup fa5 = some ⟨oc5, od5, .func (PySem.W.fnOf "order" "order" (defArgs s_order) (defBody s_order) (defScope s_order) .none kV5 dc5 pm5 an5 cd5 ct5), sl5⟩) (c5 : PySem.W.codeIn K cd5 "order" = true) (k5 : PySem.W.keepIn K (.ref fa5) = true)
    (a6 : PySem.W.nsIn K mainGlobals "takes_pair" = some (some (.ref fa6))) (l6 : K.lookup fa6 = some ⟨oc6, od6, .func (PySem.W.fnOf "takes_pair" "takes_pair" (defArgs s_takes_pair) (defBody s_takes_pair) (defScope s_takes_pair) .none kV6 dc6 pm6 an6 cd6 ct6), sl6⟩) (c6 : PySem.W.codeIn K cd6 "takes_pair" = true) (k6 : PySem.W.keepIn K (.ref fa6) = true)
    (a7 : PySem.W.nsIn K mainGlobals "is_strict" = some (some (.ref fa7))) (l7 : K.lookup fa7 = some ⟨oc7, od7, .func (PySem.W.fnOf "is_strict" "is_strict" (defArgs s_is_strict) (defBody s_is_strict) (defScope s_is_strict) .none kV7 dc7 pm7 an7 cd7 ct7), sl7⟩) (c7 : PySem.W.codeIn K cd7 "is_strict" = true) (k7 : PySem.W.keepIn K (.ref fa7) = true)
    (a8 : PySem.W.nsIn K mainGlobals "whole" = some (some (.ref fa8))) (l8 : K.lookup fa8 = some ⟨oc8, od8, .func (PySem.W.fnOf "whole" "whole" (defArgs s_whole) (defBody s_whole) (defScope s_whole) .none kV8 dc8 pm8 an8 cd8 ct8), sl8⟩) (c8 : PySem.W.codeIn K cd8 "whole" = true) (k8 : PySem.W.keepIn K (.ref fa8) = true)
    (a9 : PySem.W.nsIn K mainGlobals "add" = some (some (.ref fa9))) (l9 : K.lookup fa9 = some ⟨oc9, od9, .func (PySem.W.fnOf "add" "add" (defArgs s_add) (defBody s_add) (defScope s_add) .none kV9 dc9 pm9 an9 cd9 ct9), sl9⟩) (c9 : PySem.W.codeIn K cd9 "add" = true) (k9 : PySem.W.keepIn K (.ref fa9) = true)
    (a10 : PySem.W.nsIn K mainGlobals "subtract" = some (some (.ref fa10))) (l10 : K.lookup fa10 = some ⟨oc10, od10, .func (PySem.W.fnOf "subtract" "subtract" (defArgs s_subtract) (defBody s_subtract) (defScope s_subtract) .none kV10 dc10 pm10 an10 cd10 ct10), sl10⟩) (c10 : PySem.W.codeIn K cd10 "subtract" = true) (k10 : PySem.W.keepIn K (.ref fa10) = true)
    (a11 : PySem.W.nsIn K mainGlobals "multiply" = some (some (.ref fa11))) (l11 : K.lookup fa11 = some ⟨oc11, od11, .func (PySem.W.fnOf "multiply" "multiply" (defArgs s_multiply) (defBody s_multiply) (defScope s_multiply) .none kV11 dc11 pm11 an11 cd11 ct11), sl11⟩) (c11 : PySem.W.codeIn K cd11 "multiply" = true) (k11 : PySem.W.keepIn K (.ref fa11) = true)
    (a12 : PySem.W.nsIn K mainGlobals "divide" = some (some (.ref fa12))) (l12 : K.lookup fa12 = some ⟨oc12, od12, .func (PySem.W.fnOf "divide" "divide" (defArgs s_divide) (defBody s_divide) (defScope s_divide) .none kV12 dc12 pm12 an12 cd12 ct12), sl12⟩) (c12 : PySem.W.codeIn K cd12 "divide" = true) (k12 : PySem.W.keepIn K (.ref fa12) = true)
    (a13 : PySem.W.nsIn K mainGlobals "remainder" = some (some (.ref fa13))) (l13 : K.lookup fa13 = some ⟨oc13, od13, .func (PySem.W.fnOf "remainder" "remainder" (defArgs s_remainder) (defBody s_remainder) (defScope s_remainder) .none kV13 dc13 pm13 an13 cd13 ct13), sl13⟩) (c13 : PySem.W.codeIn K cd13 "remainder" = true) (k13 : PySem.W.keepIn K (.ref fa13) = true)
    (a14 : PySem.W.nsIn K mainGlobals "join_texts" = some (some (.ref fa14))) (l14 : K.lookup fa14 = some ⟨oc14, od14, .func (PySem.W.fnOf "join_texts" "join_texts" (defArgs s_join_texts) (defBody s_join_texts) (defScope s_join_texts) .none kV14 dc14 pm14 an14 cd14 ct14), sl14⟩) (c14 : PySem.W.codeIn K cd14 "join_texts" = true) (k14 : PySem.W.keepIn K (.ref fa14) = true)
    (a15 : PySem.W.nsIn K mainGlobals "part" = some (some (.ref fa15))) (l15 : K.lookup fa15 = some ⟨oc15, od15, .func (PySem.W.fnOf "part" "part" (defArgs s_part) (defBody s_part) (defScope s_part) .none kV15 dc15 pm15 an15 cd15 ct15), sl15⟩) (c15 : PySem.W.codeIn K cd15 "part" = true) (k15 : PySem.W.keepIn K (.ref fa15) = true)
    (a16 : PySem.W.nsIn K mainGlobals "read_number" = some (some (.ref fa16))) (l16 : K.lookup fa16 = some ⟨oc16, od16, .func (PySem.W.fnOf "read_number" "read_number" (defArgs s_read_number) (defBody s_read_number) (defScope s_read_number) .none kV16 dc16 pm16 an16 cd16 ct16), sl16⟩) (c16 : PySem.W.codeIn K cd16 "read_number" = true) (k16 : PySem.W.keepIn K (.ref fa16) = true)
    (a17 : PySem.W.nsIn K mainGlobals "compared" = some (some (.ref fa17))) (l17 : K.lookup fa17 = some ⟨oc17, od17, .func (PySem.W.fnOf "compared" "compared" (defArgs s_compared) (defBody s_compared) (defScope s_compared) .none kV17 dc17 pm17 an17 cd17 ct17), sl17⟩) (c17 : PySem.W.codeIn K cd17 "compared" = true) (k17 : PySem.W.keepIn K (.ref fa17) = true)
    (a18 : PySem.W.nsIn K mainGlobals "one_text" = some (some (.ref fa18))) (l18 : K.lookup fa18 = some ⟨oc18, od18, .func (PySem.W.fnOf "one_text" "one_text" (defArgs s_one_text) (defBody s_one_text) (defScope s_one_text) .none kV18 dc18 pm18 an18 cd18 ct18), sl18⟩) (c18 : PySem.W.codeIn K cd18 "one_text" = true) (k18 : PySem.W.keepIn K (.ref fa18) = true)
    (a19 : PySem.W.nsIn K mainGlobals "one_argument" = some (some (.ref fa19))) (l19 : K.lookup fa19 = some ⟨oc19, od19, .func (PySem.W.fnOf "one_argument" "one_argument" (defArgs s_one_argument) (defBody s_one_argument) (defScope s_one_argument) .none kV19 dc19 pm19 an19 cd19 ct19), sl19⟩) (c19 : PySem.W.codeIn K cd19 "one_argument" = true) (k19 : PySem.W.keepIn K (.ref fa19) = true)
    (a20 : PySem.W.nsIn K mainGlobals "strict" = some (some (.ref fa20))) (l20 : K.lookup fa20 = some ⟨oc20, od20, .func (PySem.W.fnOf "strict" "strict" (defArgs s_strict) (defBody s_strict) (defScope s_strict) .none kV20 dc20 pm20 an20 cd20 ct20), sl20⟩) (c20 : PySem.W.codeIn K cd20 "strict" = true) (k20 : PySem.W.keepIn K (.ref fa20) = true)
    (a21 : PySem.W.nsIn K mainGlobals "decided" = some (some (.ref fa21))) (l21 : K.lookup fa21 = some ⟨oc21, od21, .func (PySem.W.fnOf "decided" "decided" (defArgs s_decided) (defBody s_decided) (defScope s_decided) .none kV21 dc21 pm21 an21 cd21 ct21), sl21⟩) (c21 : PySem.W.codeIn K cd21 "decided" = true) (k21 : PySem.W.keepIn K (.ref fa21) = true)
    (a22 : PySem.W.nsIn K mainGlobals "same" = some (some (.ref fa22))) (l22 : K.lookup fa22 = some ⟨oc22, od22, .func (PySem.W.fnOf "same" "same" (defArgs s_same) (defBody s_same) (defScope s_same) .none kV22 dc22 pm22 an22 cd22 ct22), sl22⟩) (c22 : PySem.W.codeIn K cd22 "same" = true) (k22 : PySem.W.keepIn K (.ref fa22) = true)
    (a23 : PySem.W.nsIn K mainGlobals "nullif" = some (some (.ref fa23))) (l23 : K.lookup fa23 = some ⟨oc23, od23, .func (PySem.W.fnOf "nullif" "nullif" (defArgs s_nullif) (defBody s_nullif) (defScope s_nullif) .none kV23 dc23 pm23 an23 cd23 ct23), sl23⟩) (c23 : PySem.W.codeIn K cd23 "nullif" = true) (k23 : PySem.W.keepIn K (.ref fa23) = true)
    (a24 : PySem.W.nsIn K mainGlobals "loose" = some (some (.ref fa24))) (l24 : K.lookup fa24 = some ⟨oc24, od24, .func (PySem.W.fnOf "loose" "loose" (defArgs s_loose) (defBody s_loose) (defScope s_loose) .none kV24 dc24 pm24 an24 cd24 ct24), sl24⟩) (c24 : PySem.W.codeIn K cd24 "loose" = true) (k24 : PySem.W.keepIn K (.ref fa24) = true)
    (a25 : PySem.W.nsIn K mainGlobals "worked" = some (some (.ref fa25))) (l25 : K.lookup fa25 = some ⟨oc25, od25, .func (PySem.W.fnOf "worked" "worked" (defArgs s_worked) (defBody s_worked) (defScope s_worked) .none kV25 dc25 pm25 an25 cd25 ct25), sl25⟩) (c25 : PySem.W.codeIn K cd25 "worked" = true) (k25 : PySem.W.keepIn K (.ref fa25) = true)
    (a26 : PySem.W.nsIn K mainGlobals "_law_cell" = some (some (.ref fa26))) (l26 : K.lookup fa26 = some ⟨oc26, od26, .func (PySem.W.fnOf "_law_cell" "_law_cell" (defArgs s_law_cell) (defBody s_law_cell) (defScope s_law_cell) .none kV26 dc26 pm26 an26 cd26 ct26), sl26⟩) (c26 : PySem.W.codeIn K cd26 "_law_cell" = true) (k26 : PySem.W.keepIn K (.ref fa26) = true)
    (a27 : PySem.W.nsIn K mainGlobals "_law_mixed" = some (some (.ref fa27))) (l27 : K.lookup fa27 = some ⟨oc27, od27, .func (PySem.W.fnOf "_law_mixed" "_law_mixed" (defArgs s_law_mixed) (defBody s_law_mixed) (defScope s_law_mixed) .none kV27 dc27 pm27 an27 cd27 ct27), sl27⟩) (c27 : PySem.W.codeIn K cd27 "_law_mixed" = true) (k27 : PySem.W.keepIn K (.ref fa27) = true)
    (a28 : PySem.W.nsIn K mainGlobals "_law_draws" = some (some (.ref fa28))) (l28 : K.lookup fa28 = some ⟨oc28, od28, .func (PySem.W.fnOf "_law_draws" "_law_draws" (defArgs s_law_draws) (defBody s_law_draws) (defScope s_law_draws) .none kV28 dc28 pm28 an28 cd28 ct28), sl28⟩) (c28 : PySem.W.codeIn K cd28 "_law_draws" = true) (k28 : PySem.W.keepIn K (.ref fa28) = true)
    (a29 : PySem.W.nsIn K mainGlobals "_law_signs" = some (some (.ref fa29))) (l29 : K.lookup fa29 = some ⟨oc29, od29, .func (PySem.W.fnOf "_law_signs" "_law_signs" (defArgs s_law_signs) (defBody s_law_signs) (defScope s_law_signs) .none kV29 dc29 pm29 an29 cd29 ct29), sl29⟩) (c29 : PySem.W.codeIn K cd29 "_law_signs" = true) (k29 : PySem.W.keepIn K (.ref fa29) = true)
    (a30 : PySem.W.nsIn K mainGlobals "_law_is" = some (some (.ref fa30))) (l30 : K.lookup fa30 = some ⟨oc30, od30, .func (PySem.W.fnOf "_law_is" "_law_is" (defArgs s_law_is) (defBody s_law_is) (defScope s_law_is) .none kV30 dc30 pm30 an30 cd30 ct30), sl30⟩) (c30 : PySem.W.codeIn K cd30 "_law_is" = true) (k30 : PySem.W.keepIn K (.ref fa30) = true)
    (a31 : PySem.W.nsIn K mainGlobals "_law_strict" = some (some (.ref fa31))) (l31 : K.lookup fa31 = some ⟨oc31, od31, .func (PySem.W.fnOf "_law_strict" "_law_strict" (defArgs s_law_strict) (defBody s_law_strict) (defScope s_law_strict) .none kV31 dc31 pm31 an31 cd31 ct31), sl31⟩) (c31 : PySem.W.codeIn K cd31 "_law_strict" = true) (k31 : PySem.W.keepIn K (.ref fa31) = true)
    (a32 : PySem.W.nsIn K mainGlobals "_law_arg" = some (some (.ref fa32))) (l32 : K.lookup fa32 = some ⟨oc32, od32, .func (PySem.W.fnOf "_law_arg" "_law_arg" (defArgs s_law_arg) (defBody s_law_arg) (defScope s_law_arg) .none kV32 dc32 pm32 an32 cd32 ct32), sl32⟩) (c32 : PySem.W.codeIn K cd32 "_law_arg" = true) (k32 : PySem.W.keepIn K (.ref fa32) = true)
    (a33 : PySem.W.nsIn K mainGlobals "_law_fits" = some (some (.ref fa33))) (l33 : K.lookup fa33 = some ⟨oc33, od33, .func (PySem.W.fnOf "_law_fits" "_law_fits" (defArgs s_law_fits) (defBody s_law_fits) (defScope s_law_fits) .none kV33 dc33 pm33 an33 cd33 ct33), sl33⟩) (c33 : PySem.W.codeIn K cd33 "_law_fits" = true) (k33 : PySem.W.keepIn K (.ref fa33) = true)
    (a34 : PySem.W.nsIn K mainGlobals "_law_pattern" = some (some (.ref fa34))) (l34 : K.lookup fa34 = some ⟨oc34, od34, .func (PySem.W.fnOf "_law_pattern" "_law_pattern" (defArgs s_law_pattern) (defBody s_law_pattern) (defScope s_law_pattern) .none kV34 dc34 pm34 an34 cd34 ct34), sl34⟩) (c34 : PySem.W.codeIn K cd34 "_law_pattern" = true) (k34 : PySem.W.keepIn K (.ref fa34) = true)
    (a35 : PySem.W.nsIn K mainGlobals "_law_filled" = some (some (.ref fa35))) (l35 : K.lookup fa35 = some ⟨oc35, od35, .func (PySem.W.fnOf "_law_filled" "_law_filled" (defArgs s_law_filled) (defBody s_law_filled) (defScope s_law_filled) .none kV35 dc35 pm35 an35 cd35 ct35), sl35⟩) (c35 : PySem.W.codeIn K cd35 "_law_filled" = true) (k35 : PySem.W.keepIn K (.ref fa35) = true)
    (a36 : PySem.W.nsIn K mainGlobals "_law_spoilt" = some (some (.ref fa36))) (l36 : K.lookup fa36 = some ⟨oc36, od36, .func (PySem.W.fnOf "_law_spoilt" "_law_spoilt" (defArgs s_law_spoilt) (defBody s_law_spoilt) (defScope s_law_spoilt) .none kV36 dc36 pm36 an36 cd36 ct36), sl36⟩) (c36 : PySem.W.codeIn K cd36 "_law_spoilt" = true) (k36 : PySem.W.keepIn K (.ref fa36) = true)
    (a37 : PySem.W.nsIn K mainGlobals "law" = some (some (.ref fa37))) (l37 : K.lookup fa37 = some ⟨oc37, od37, .func (PySem.W.fnOf "law" "law" (defArgs s_law) (defBody s_law) (defScope s_law) .none kV37 dc37 pm37 an37 cd37 ct37), sl37⟩) (c37 : PySem.W.codeIn K cd37 "law" = true) (k37 : PySem.W.keepIn K (.ref fa37) = true)
    (z0 : PySem.W.nsIn K mainGlobals "abs" = some none)
    (z1 : PySem.W.nsIn K mainGlobals "bool" = some none)
    (z2 : PySem.W.nsIn K mainGlobals "int" = some none)
    (z3 : PySem.W.nsIn K mainGlobals "isinstance" = some none)
    (z4 : PySem.W.nsIn K mainGlobals "len" = some none)
    (z5 : PySem.W.nsIn K mainGlobals "max" = some none)
    (z6 : PySem.W.nsIn K mainGlobals "min" = some none)
    (z7 : PySem.W.nsIn K mainGlobals "range" = some none)
    (z8 : PySem.W.nsIn K mainGlobals "str" = some none)
    (z9 : PySem.W.nsIn K mainGlobals "tuple" = some none)
    {ct_0 : Tok} (y0 : PySem.W.nsIn K mainGlobals "BOUND" = some (some (.int 1000000000000000000 ct_0)))
    {ct_1 : Tok} (y1 : PySem.W.nsIn K mainGlobals "CAST" = some (some (.int 2 ct_1)))
    {ca2 : Addr} (y2 : PySem.W.nsIn K mainGlobals "CHOOSING" = some (some (.ref ca2))) (x2 : denB K k_CHOOSING (.ref ca2) = true)
    {ca3 : Addr} (y3 : PySem.W.nsIn K mainGlobals "COMPARING" = some (some (.ref ca3))) (x3 : denB K k_COMPARING (.ref ca3) = true)
    {ct_4 : Tok} (y4 : PySem.W.nsIn K mainGlobals "DIV" = some (some (.int 1 ct_4)))
    {ca5 : Addr} (y5 : PySem.W.nsIn K mainGlobals "FIXED" = some (some (.ref ca5))) (w5 : He.dicW K ca5 = some (He.keysIn w.params (t_FIXED.map (·.1)))) (v5 : valsB K ca5 (t_FIXED.map (·.2)) = true)
    {ct_6 : Tok} (y6 : PySem.W.nsIn K mainGlobals "LONGEST" = some (some (.int 200 ct_6)))
    {ca7 : Addr} (y7 : PySem.W.nsIn K mainGlobals "LOOSE" = some (some (.ref ca7))) (x7 : denB K k_LOOSE (.ref ca7) = true)
    {ct_8 : Tok} (y8 : PySem.W.nsIn K mainGlobals "SIZE" = some (some (.int 4 ct_8)))
    {ca9 : Addr} (y9 : PySem.W.nsIn K mainGlobals "TWO" = some (some (.ref ca9))) (w9 : He.dicW K ca9 = some (He.keysIn w.params [(Str.ofString "add"), (Str.ofString "sub"), (Str.ofString "mul"), (Str.ofString "div"), (Str.ofString "mod"), (Str.ofString "cat"), (Str.ofString "like")])) (v9 : valsW K ca9 = some [.ref fa9, .ref fa10, .ref fa11, .ref fa12, .ref fa13, .ref fa14, .ref fa0]) :
    ∃ fd : FuncData, (∀ (s : Shared) (v : Value), BindsTo s fd ⟨[v], []⟩ [("script", v)]) ∧ ∀ base : Heap, K.In base → base.Ns mainGlobals mg → FnOk l.prog w K mg base (L2.CX l.prog w) 7 fa fd ["script"] (spL K) := by
  have e := hfa.symm.trans (PySem.W.mg_of X G a37)
  cases e
  let T : Tx w K mg := { a_matches := fa0, d_matches := _, F_matches := fun_mk (st := s_matches) l0 c0 k0, g_matches := PySem.W.mg_of X G a0, b_matches := (fun_mk (st := s_matches) l0 c0 k0).binds (ps := ["text", "pattern"]) fun _ _ _ _ _ _ us hl => match us, hl with | [_, _], _ => rfl, a_fault := fa1, d_fault := _, F_fault := fun_mk (st := s_fault) l1 c1 k1, g_fault := PySem.W.mg_of X G a1, b_fault := (fun_mk (st := s_fault) l1 c1 k1).binds (ps := ["code"]) fun _ _ _ _ _ _ us hl => match us, hl with | [_], _ => rfl, a_is_fault := fa2, d_is_fault := _, F_is_fault := fun_mk (st := s_is_fault) l2 c2 k2, g_is_fault := PySem.W.mg_of X G a2, b_is_fault := (fun_mk (st := s_is_fault) l2 c2 k2).binds (ps := ["x"]) fun _ _ _ _ _ _ us hl => match us, hl with | [_], _ => rfl, a_least_fault := fa3, d_least_fault := _, F_least_fault := fun_mk (st := s_least_fault) l3 c3 k3, g_least_fault := PySem.W.mg_of X G a3, b_least_fault := (fun_mk (st := s_least_fault) l3 c3 k3).binds (ps := ["xs"]) fun _ _ _ _ _ _ us hl => match us, hl with | [_], _ => rfl, a_value_key := fa4, d_value_key := _, F_value_key := fun_mk (st := s_value_key) l4 c4 k4, g_value_key := PySem.W.mg_of X G a4, b_value_key := (fun_mk (st := s_value_key) l4 c4 k4).binds (ps := ["value"]) fun _ _ _ _ _ _ us hl => match us, hl with | [_], _ => rfl, a_order := fa5, d_order := _, F_order := fun_mk (st := s_order) l5 c5 k5, g_order := PySem.W.mg_of X G a5, b_order := (fun_mk (st := s_order) l5 c5 k5).binds (ps := ["a", "b"]) fun _ _ _ _ _ _ us hl => match us, hl with | [_, _], _ => rfl, a_takes_pair := fa6, d_takes_pair := _, F_takes_pair := fun_mk (st := s_takes_pair) l6 c6 k6, g_takes_pair := PySem.W.mg_of X G a6, b_takes_pair := (fun_mk (st := s_takes_pair) l6 c6 k6).binds (ps := ["name"]) fun _ _ _ _ _ _ us hl => match us, hl with | [_], _ => rfl, a_is_strict := fa7, d_is_strict := _, F_is_strict := fun_mk (st := s_is_strict) l7 c7 k7, g_is_strict := PySem.W.mg_of X G a7, b_is_strict := (fun_mk (st := s_is_strict) l7 c7 k7).binds (ps := ["name"]) fun _ _ _ _ _ _ us hl => match us, hl with | [_], _ => rfl, a_whole := fa8, d_whole := _, F_whole := fun_mk (st := s_whole) l8 c8 k8, g_whole := PySem.W.mg_of X G a8, b_whole := (fun_mk (st := s_whole) l8 c8 k8).binds (ps := ["n"]) fun _ _ _ _ _ _ us hl => match us, hl with | [_], _ => rfl, a_add := fa9, d_add := _, F_add := fun_mk (st := s_add) l9 c9 k9, g_add := PySem.W.mg_of X G a9, b_add := (fun_mk (st := s_add) l9 c9 k9).binds (ps := ["a", "b"]) fun _ _ _ _ _ _ us hl => match us, hl with | [_, _], _ => rfl, a_subtract := fa10, d_subtract := _, F_subtract := fun_mk (st := s_subtract) l10 c10 k10, g_subtract := PySem.W.mg_of X G a10, b_subtract := (fun_mk (st := s_subtract) l10 c10 k10).binds (ps := ["a", "b"]) fun _ _ _ _ _ _ us hl => match us, hl with | [_, _], _ => rfl, a_multiply := fa11, d_multiply := _, F_multiply := fun_mk (st := s_multiply) l11 c11 k11, g_multiply := PySem.W.mg_of X G a11, b_multiply := (fun_mk (st := s_multiply) l11 c11 k11).binds (ps := ["a", "b"]) fun _ _ _ _ _ _ us hl => match us, hl with | [_, _], _ => rfl, a_divide := fa12, d_divide := _, F_divide := fun_mk (st := s_divide) l12 c12 k12, g_divide := PySem.W.mg_of X G a12, b_divide := (fun_mk (st := s_divide) l12 c12 k12).binds (ps := ["a", "b"]) fun _ _ _ _ _ _ us hl => match us, hl with | [_, _], _ => rfl, a_remainder := fa13, d_remainder := _, F_remainder := fun_mk (st := s_remainder) l13 c13 k13, g_remainder := PySem.W.mg_of X G a13, b_remainder := (fun_mk (st := s_remainder) l13 c13 k13).binds (ps := ["a", "b"]) fun _ _ _ _ _ _ us hl => match us, hl with | [_, _], _ => rfl, a_join_texts := fa14, d_join_texts := _, F_join_texts := fun_mk (st := s_join_texts) l14 c14 k14, g_join_texts := PySem.W.mg_of X G a14, b_join_texts := (fun_mk (st := s_join_texts) l14 c14 k14).binds (ps := ["a", "b"]) fun _ _ _ _ _ _ us hl => match us, hl with | [_, _], _ => rfl, a_part := fa15, d_part := _, F_part := fun_mk (st := s_part) l15 c15 k15, g_part := PySem.W.mg_of X G a15, b_part := (fun_mk (st := s_part) l15 c15 k15).binds (ps := ["text", "first", "many"]) fun _ _ _ _ _ _ us hl => match us, hl with | [_, _, _], _ => rfl, a_read_number := fa16, d_read_number := _, F_read_number := fun_mk (st := s_read_number) l16 c16 k16, g_read_number := PySem.W.mg_of X G a16, b_read_number := (fun_mk (st := s_read_number) l16 c16 k16).binds (ps := ["text"]) fun _ _ _ _ _ _ us hl => match us, hl with | [_], _ => rfl, a_compared := fa17, d_compared := _, F_compared := fun_mk (st := s_compared) l17 c17 k17, g_compared := PySem.W.mg_of X G a17, b_compared := (fun_mk (st := s_compared) l17 c17 k17).binds (ps := ["name", "a", "b"]) fun _ _ _ _ _ _ us hl => match us, hl with | [_, _, _], _ => rfl, a_one_text := fa18, d_one_text := _, F_one_text := fun_mk (st := s_one_text) l18 c18 k18, g_one_text := PySem.W.mg_of X G a18, b_one_text := (fun_mk (st := s_one_text) l18 c18 k18).binds (ps := ["name", "text"]) fun _ _ _ _ _ _ us hl => match us, hl with | [_, _], _ => rfl, a_one_argument := fa19, d_one_argument := _, F_one_argument := fun_mk (st := s_one_argument) l19 c19 k19, g_one_argument := PySem.W.mg_of X G a19, b_one_argument := (fun_mk (st := s_one_argument) l19 c19 k19).binds (ps := ["name", "a"]) fun _ _ _ _ _ _ us hl => match us, hl with | [_, _], _ => rfl, a_strict := fa20, d_strict := _, F_strict := fun_mk (st := s_strict) l20 c20 k20, g_strict := PySem.W.mg_of X G a20, b_strict := (fun_mk (st := s_strict) l20 c20 k20).binds (ps := ["name", "args"]) fun _ _ _ _ _ _ us hl => match us, hl with | [_, _], _ => rfl, a_decided := fa21, d_decided := _, F_decided := fun_mk (st := s_decided) l21 c21 k21, g_decided := PySem.W.mg_of X G a21, b_decided := (fun_mk (st := s_decided) l21 c21 k21).binds (ps := ["args", "worth"]) fun _ _ _ _ _ _ us hl => match us, hl with | [_, _], _ => rfl, a_same := fa22, d_same := _, F_same := fun_mk (st := s_same) l22 c22 k22, g_same := PySem.W.mg_of X G a22, b_same := (fun_mk (st := s_same) l22 c22 k22).binds (ps := ["a", "b"]) fun _ _ _ _ _ _ us hl => match us, hl with | [_, _], _ => rfl, a_nullif := fa23, d_nullif := _, F_nullif := fun_mk (st := s_nullif) l23 c23 k23, g_nullif := PySem.W.mg_of X G a23, b_nullif := (fun_mk (st := s_nullif) l23 c23 k23).binds (ps := ["a", "b"]) fun _ _ _ _ _ _ us hl => match us, hl with | [_, _], _ => rfl, a_loose := fa24, d_loose := _, F_loose := fun_mk (st := s_loose) l24 c24 k24, g_loose := PySem.W.mg_of X G a24, b_loose := (fun_mk (st := s_loose) l24 c24 k24).binds (ps := ["name", "args"]) fun _ _ _ _ _ _ us hl => match us, hl with | [_, _], _ => rfl, a_worked := fa25, d_worked := _, F_worked := fun_mk (st := s_worked) l25 c25 k25, g_worked := PySem.W.mg_of X G a25, b_worked := (fun_mk (st := s_worked) l25 c25 k25).binds (ps := ["name", "args"]) fun _ _ _ _ _ _ us hl => match us, hl with | [_, _], _ => rfl, a_law_cell := fa26, d_law_cell := _, F_law_cell := fun_mk (st := s_law_cell) l26 c26 k26, g_law_cell := PySem.W.mg_of X G a26, b_law_cell := (fun_mk (st := s_law_cell) l26 c26 k26).binds (ps := ["script", "k"]) fun _ _ _ _ _ _ us hl => match us, hl with | [_, _], _ => rfl, a_law_mixed := fa27, d_law_mixed := _, F_law_mixed := fun_mk (st := s_law_mixed) l27 c27 k27, g_law_mixed := PySem.W.mg_of X G a27, b_law_mixed := (fun_mk (st := s_law_mixed) l27 c27 k27).binds (ps := ["cell", "k"]) fun _ _ _ _ _ _ us hl => match us, hl with | [_, _], _ => rfl, a_law_draws := fa28, d_law_draws := _, F_law_draws := fun_mk (st := s_law_draws) l28 c28 k28, g_law_draws := PySem.W.mg_of X G a28, b_law_draws := (fun_mk (st := s_law_draws) l28 c28 k28).binds (ps := ["cell", "many"]) fun _ _ _ _ _ _ us hl => match us, hl with | [_, _], _ => rfl, a_law_signs := fa29, d_law_signs := _, F_law_signs := fun_mk (st := s_law_signs) l29 c29 k29, g_law_signs := PySem.W.mg_of X G a29, b_law_signs := (fun_mk (st := s_law_signs) l29 c29 k29).binds (ps := []) fun _ _ _ _ _ _ us hl => match us, hl with | [], _ => rfl, a_law_is := fa30, d_law_is := _, F_law_is := fun_mk (st := s_law_is) l30 c30 k30, g_law_is := PySem.W.mg_of X G a30, b_law_is := (fun_mk (st := s_law_is) l30 c30 k30).binds (ps := ["actual", "due"]) fun _ _ _ _ _ _ us hl => match us, hl with | [_, _], _ => rfl, a_law_strict := fa31, d_law_strict := _, F_law_strict := fun_mk (st := s_law_strict) l31 c31 k31, g_law_strict := PySem.W.mg_of X G a31, b_law_strict := (fun_mk (st := s_law_strict) l31 c31 k31).binds (ps := ["args"]) fun _ _ _ _ _ _ us hl => match us, hl with | [_], _ => rfl, a_law_arg := fa32, d_law_arg := _, F_law_arg := fun_mk (st := s_law_arg) l32 c32 k32, g_law_arg := PySem.W.mg_of X G a32, b_law_arg := (fun_mk (st := s_law_arg) l32 c32 k32).binds (ps := ["x", "draw"]) fun _ _ _ _ _ _ us hl => match us, hl with | [_, _], _ => rfl, a_law_fits := fa33, d_law_fits := _, F_law_fits := fun_mk (st := s_law_fits) l33 c33 k33, g_law_fits := PySem.W.mg_of X G a33, b_law_fits := (fun_mk (st := s_law_fits) l33 c33 k33).binds (ps := ["text", "pattern"]) fun _ _ _ _ _ _ us hl => match us, hl with | [_, _], _ => rfl, a_law_pattern := fa34, d_law_pattern := _, F_law_pattern := fun_mk (st := s_law_pattern) l34 c34 k34, g_law_pattern := PySem.W.mg_of X G a34, b_law_pattern := (fun_mk (st := s_law_pattern) l34 c34 k34).binds (ps := ["draws", "size"]) fun _ _ _ _ _ _ us hl => match us, hl with | [_, _], _ => rfl, a_law_filled := fa35, d_law_filled := _, F_law_filled := fun_mk (st := s_law_filled) l35 c35 k35, g_law_filled := PySem.W.mg_of X G a35, b_law_filled := (fun_mk (st := s_law_filled) l35 c35 k35).binds (ps := ["draws", "pattern"]) fun _ _ _ _ _ _ us hl => match us, hl with | [_, _], _ => rfl, a_law_spoilt := fa36, d_law_spoilt := _, F_law_spoilt := fun_mk (st := s_law_spoilt) l36 c36 k36, g_law_spoilt := PySem.W.mg_of X G a36, b_law_spoilt := (fun_mk (st := s_law_spoilt) l36 c36 k36).binds (ps := ["draws", "text"]) fun _ _ _ _ _ _ us hl => match us, hl with | [_, _], _ => rfl, a_law := fa, d_law := _, F_law := fun_mk (st := s_law) l37 c37 k37, g_law := PySem.W.mg_of X G a37, b_law := (fun_mk (st := s_law) l37 c37 k37).binds (ps := ["script"]) fun _ _ _ _ _ _ us hl => match us, hl with | [_], _ => rfl, n_abs := PySem.W.mg_none_of X G z0, n_bool := PySem.W.mg_none_of X G z1, n_int := PySem.W.mg_none_of X G z2, n_isinstance := PySem.W.mg_none_of X G z3, n_len := PySem.W.mg_none_of X G z4, n_max := PySem.W.mg_none_of X G z5, n_min := PySem.W.mg_none_of X G z6, n_range := PySem.W.mg_none_of X G z7, n_str := PySem.W.mg_none_of X G z8, n_tuple := PySem.W.mg_none_of X G z9, c_BOUND := ⟨_, PySem.W.mg_of X G y0⟩, c_CAST := ⟨_, PySem.W.mg_of X G y1⟩, c_CHOOSING := ⟨_, PySem.W.mg_of X G y2, denB_den x2⟩, c_COMPARING := ⟨_, PySem.W.mg_of X G y3, denB_den x3⟩, c_DIV := ⟨_, PySem.W.mg_of X G y4⟩, c_FIXED := ⟨_, PySem.W.mg_of X G y5, tabD_of w5 v5⟩, c_LONGEST := ⟨_, PySem.W.mg_of X G y6⟩, c_LOOSE := ⟨_, PySem.W.mg_of X G y7, denB_den x7⟩, c_SIZE := ⟨_, PySem.W.mg_of X G y8⟩, c_TWO := ⟨_, PySem.W.mg_of X G y9, tabF_of w9 v9⟩ }
  exact ⟨T.d_law, fun s v => .of_eq rfl, fun base _ _ => law_end (D_law T) pure⟩

end DL.Wk
namespace DL.Pure
open PySem PySem.Spec PyProof.Rows L2 DL DL.Wk
@[simp] theorem lit0 : (Str.ofString "*") = tx [42] := by decide +kernel
@[simp] theorem lit1 : (Str.ofString "?") = tx [63] := by decide +kernel
@[simp] theorem lit2 : (Str.ofString "fault") = tx [102, 97, 117, 108, 116] := by decide +kernel
@[simp] theorem lit3 : (Str.ofString "") = tx [] := by decide +kernel
@[simp] theorem lit4 : (Str.ofString "-") = tx [45] := by decide +kernel
@[simp] theorem lit5 : (Str.ofString "0") = tx [48] := by decide +kernel
@[simp] theorem lit6 : (Str.ofString "9") = tx [57] := by decide +kernel
@[simp] theorem lit7 : (Str.ofString "eq") = tx [101, 113] := by decide +kernel
@[simp] theorem lit8 : (Str.ofString "ne") = tx [110, 101] := by decide +kernel
@[simp] theorem lit9 : (Str.ofString "lt") = tx [108, 116] := by decide +kernel
@[simp] theorem lit10 : (Str.ofString "le") = tx [108, 101] := by decide +kernel
@[simp] theorem lit11 : (Str.ofString "gt") = tx [103, 116] := by decide +kernel
@[simp] theorem lit12 : (Str.ofString "size") = tx [115, 105, 122, 101] := by decide +kernel
@[simp] theorem lit13 : (Str.ofString "upper") = tx [117, 112, 112, 101, 114] := by decide +kernel
@[simp] theorem lit14 : (Str.ofString "lower") = tx [108, 111, 119, 101, 114] := by decide +kernel
@[simp] theorem lit15 : (Str.ofString "neg") = tx [110, 101, 103] := by decide +kernel
@[simp] theorem lit16 : (Str.ofString "abs") = tx [97, 98, 115] := by decide +kernel
@[simp] theorem lit17 : (Str.ofString "words") = tx [119, 111, 114, 100, 115] := by decide +kernel
@[simp] theorem lit18 : (Str.ofString "not") = tx [110, 111, 116] := by decide +kernel
@[simp] theorem lit19 : (Str.ofString "part") = tx [112, 97, 114, 116] := by decide +kernel
@[simp] theorem lit20 : (Str.ofString "add") = tx [97, 100, 100] := by decide +kernel
@[simp] theorem lit21 : (Str.ofString "sub") = tx [115, 117, 98] := by decide +kernel
@[simp] theorem lit22 : (Str.ofString "mul") = tx [109, 117, 108] := by decide +kernel
@[simp] theorem lit23 : (Str.ofString "div") = tx [100, 105, 118] := by decide +kernel
@[simp] theorem lit24 : (Str.ofString "mod") = tx [109, 111, 100] := by decide +kernel
@[simp] theorem lit25 : (Str.ofString "cat") = tx [99, 97, 116] := by decide +kernel
@[simp] theorem lit26 : (Str.ofString "like") = tx [108, 105, 107, 101] := by decide +kernel
@[simp] theorem lit27 : (Str.ofString "most") = tx [109, 111, 115, 116] := by decide +kernel
@[simp] theorem lit28 : (Str.ofString "least") = tx [108, 101, 97, 115, 116] := by decide +kernel
@[simp] theorem lit29 : (Str.ofString "and") = tx [97, 110, 100] := by decide +kernel
@[simp] theorem lit30 : (Str.ofString "or") = tx [111, 114] := by decide +kernel
@[simp] theorem lit31 : (Str.ofString "isnull") = tx [105, 115, 110, 117, 108, 108] := by decide +kernel
@[simp] theorem lit32 : (Str.ofString "same") = tx [115, 97, 109, 101] := by decide +kernel
@[simp] theorem lit33 : (Str.ofString "coalesce") = tx [99, 111, 97, 108, 101, 115, 99, 101] := by decide +kernel
@[simp] theorem lit34 : (Str.ofString " !\"#$&'()*+,-./0123456789:;<=>?@ABCDEFGHIJKLMNOPQRSTUVWXYZ[\\]^_`") = tx [32, 33, 34, 35, 36, 38, 39, 40, 41, 42, 43, 44, 45, 46, 47, 48, 49, 50, 51, 52, 53, 54, 55, 56, 57, 58, 59, 60, 61, 62, 63, 64, 65, 66, 67, 68, 69, 70, 71, 72, 73, 74, 75, 76, 77, 78, 79, 80, 81, 82, 83, 84, 85, 86, 87, 88, 89, 90, 91, 92, 93, 94, 95, 96] := by decide +kernel
@[simp] theorem lit35 : (Str.ofString "abcdefghijklmnopqrstuvwxyz{|}~") = tx [97, 98, 99, 100, 101, 102, 103, 104, 105, 106, 107, 108, 109, 110, 111, 112, 113, 114, 115, 116, 117, 118, 119, 120, 121, 122, 123, 124, 125, 126] := by decide +kernel
@[simp] theorem lit36 : (Str.ofString "ab*?*a") = tx [97, 98, 42, 63, 42, 97] := by decide +kernel
@[simp] theorem lit37 : (Str.ofString "abab") = tx [97, 98, 97, 98] := by decide +kernel
@[simp] theorem lit38 : (Str.ofString "c") = tx [99] := by decide +kernel
@[simp] theorem lit39 : (Str.ofString "b") = tx [98] := by decide +kernel
@[simp] theorem lit40 : (Str.ofString "a") = tx [97] := by decide +kernel
@[simp] theorem lit41 : (Str.ofString "nullif") = tx [110, 117, 108, 108, 105, 102] := by decide +kernel
@[simp] theorem lit42 : (Str.ofString "ge") = tx [103, 101] := by decide +kernel
@[simp] theorem lit43 : (Str.ofString "int") = tx [105, 110, 116] := by decide +kernel
@[simp] theorem lit44 : (Str.ofString "text") = tx [116, 101, 120, 116] := by decide +kernel
@[simp] theorem lit45 : (Str.ofString "bool") = tx [98, 111, 111, 108] := by decide +kernel
@[simp] theorem lit46 : (Str.ofString "number") = tx [110, 117, 109, 98, 101, 114] := by decide +kernel
theorem cell_is (ns : List Int) (k : Nat) : ∃ c : Int, m_law_cell [.list (ns.map .int), .int k] = .ok (.int c) := by
  unfold m_law_cell g_law_cell
  by_cases h : (k : Int) < ns.length
  · obtain ⟨x, hx, _⟩ := atI_ints (xs := ns) (i := k) (by omega) h
    refine ⟨x, ?_⟩
    simp [hx, h]
  · refine ⟨0, ?_⟩
    simp [h]
def Big (m : Int) : Prop := 0 ≤ m ∧ m < 2147483648
theorem big_mod {a b : Int} (h : 0 < b) (h2 : b ≤ 2147483648) : Big (a.fmod b) := ⟨(fmod_bound h).1, Int.lt_of_lt_of_le (fmod_bound h).2 h2⟩
theorem mixed_is (c k : Int) : ∃ m : Int, m_law_mixed [.int c, .int k] = .ok (.int m) ∧ Big m := by
  unfold m_law_mixed g_law_mixed
  simp
  exact big_mod (b := 2147483629) (by decide) (by decide)
theorem draws_loop (c n : Int) (b : Bool) : ∀ (m : Nat) (lo : Int) (xs : List Int) (r : Int) (s5 : Sl), 0 ≤ r → xs.length + m < 16777216 → (∀ x ∈ xs, Big x) →
    ∃ (ys : List Int) (r' : Int) (s' : Sl), forL (bName 5) b1_law_draws (rangeD lo m) [.val (.int c), .val (.int n), .own (xs.map .int), .val (.int r), .val (.bool b), s5] = .nx [.val (.int c), .val (.int n), .own (ys.map .int), .val (.int r'), .val (.bool b), s'] ∧ ys.length = xs.length + m ∧ ∀ y ∈ ys, Big y
  | 0, lo, xs, r, s5, h0, h1, h2 => ⟨xs, r, s5, rfl, rfl, h2⟩
  | m + 1, lo, xs, r, s5, h0, h1, h2 => by
    rw [rangeD_succ, forL_name]
    have one : ∃ y r', b1_law_draws [.val (.int c), .val (.int n), .own (xs.map .int), .val (.int r), .val (.bool b), .val (.int lo)] = .nx [.val (.int c), .val (.int n), .own ((xs ++ [y]).map .int), .val (.int r'), .val (.bool b), .val (.int lo)] ∧ 0 ≤ r' ∧ Big y := by
      have hl : xs.length < 16777216 := by omega
      unfold b1_law_draws
      obtain ⟨m1, hm, hb⟩ := mixed_is c lo
      by_cases hc : b = true ∧ 0 < r
      · obtain ⟨rfl, hr⟩ := hc
        refine ⟨r.fmod 10000000, r.fdiv 10000000, ?_, ?_, big_mod (by decide) (by decide)⟩
        · simp [hr, hl]
        · rw [Int.fdiv_eq_ediv_of_nonneg _ (by decide)]; exact Int.ediv_nonneg h0 (by decide)
      · refine ⟨m1, r, ?_, h0, hb⟩
        cases b with
        | false => simp [hm, hl]
        | true => simp at hc; simp [hm, hl, Int.not_lt.mpr hc]
    obtain ⟨y, r', e, h3, h4⟩ := one
    obtain ⟨ys, r2, s2, e2, h5, h6⟩ := draws_loop c n b m (lo + 1) (xs ++ [y]) r' (.val (.int lo)) h3 (by rw [List.length_append, List.length_singleton]; omega) (fun x hx => by
      rcases List.mem_append.mp hx with hx | hx
      · exact h2 x hx
      · rw [List.mem_singleton.mp hx]; exact h4)
    refine ⟨ys, r2, s2, ?_, by rw [h5, List.length_append, List.length_singleton]; omega, h6⟩
    simp only [List.set_cons_succ, List.set_cons_zero, e, turn_nx]
    exact e2
theorem draws_is (c : Int) (n : Nat) (h : n < 16777216) : ∃ xs : List Int, m_law_draws [.int c, .int n] = .ok (.list (xs.map .int)) ∧ xs.length = n ∧ ∀ x ∈ xs, Big x := by
  have hr : rng1 [.int (n : Int)] = some (rangeD 0 n) := rng1_nat n (Nat.lt_trans h (by decide))
  unfold m_law_draws g_law_draws
  simp [hr]
  obtain ⟨ys, r', s', e, h1, h2⟩ := draws_loop c n (decide (1000000000000000000 ≤ (if c < 0 then -c else c))) n 0 [] (if c < 0 then -c else c) .un (by split <;> omega) (by simpa using h) (fun x hx => by cases hx)
  rw [List.map_nil] at e
  refine ⟨ys, ?_, by simpa using h1, h2⟩
  rw [e]
  simp


theorem at_int (xs : List Int) (k : Nat) (h : k < xs.length) : ∃ x, (xs.map PyData.int)[k]? = some (.int x) ∧ x ∈ xs := ⟨xs[k], by simp [h], List.getElem_mem h⟩
/-! texts -/
def plainC (c : Nat) : Bool := decide (32 ≤ c) && decide (c ≤ 126) && !decide (c = 37)
def Signs : List Nat := [32, 33, 34, 35, 36, 38, 39, 40, 41, 42, 43, 44, 45, 46, 47, 48, 49, 50, 51, 52, 53, 54, 55, 56, 57, 58, 59, 60, 61, 62, 63, 64, 65, 66, 67, 68, 69, 70, 71, 72, 73, 74, 75, 76, 77, 78, 79, 80, 81, 82, 83, 84, 85, 86, 87, 88, 89, 90, 91, 92, 93, 94, 95, 96, 97, 98, 99, 100, 101, 102, 103, 104, 105, 106, 107, 108, 109, 110, 111, 112, 113, 114, 115, 116, 117, 118, 119, 120, 121, 122, 123, 124, 125, 126]
theorem signs_plain : ∀ c ∈ Signs, plainC c = true := by decide +kernel
theorem signs_len : Signs.length = 94 := by decide +kernel
theorem signs_is : m_law_signs [] = .ok (.str (tx Signs)) := by
  unfold m_law_signs g_law_signs Signs
  simp
/-! faults -/
def wF : Str := tx [102, 97, 117, 108, 116]
def faultD (c : Int) : PyData := .tuple [.str wF, .int c]
theorem faultD_is (c : Int) : faultD c = .tuple [.str (tx [102, 97, 117, 108, 116]), .int c] := rfl
theorem nice_wF (n : Nat) : niceD n (.str wF) = true := nice_tx n _ (by decide)
theorem nice_fault (c : Int) : niceD 1 (faultD c) = true := nice_tuple (n := 0) (by simp [nice_wF])
theorem isf_fault (c : Int) (h1 : 1 ≤ c) (h2 : c ≤ 4) : m_is_fault [faultD c] = .ok (.bool true) := by
  have hc : c = 1 ∨ c = 2 ∨ c = 3 ∨ c = 4 := by omega
  rcases hc with rfl | rfl | rfl | rfl <;> simp [m_is_fault, g_is_fault, faultD_is]
@[simp] theorem isf_none : m_is_fault [.none] = .ok (.bool false) := by simp [m_is_fault, g_is_fault]
@[simp] theorem isf_bool (b : Bool) : m_is_fault [.bool b] = .ok (.bool false) := by simp [m_is_fault, g_is_fault]
@[simp] theorem isf_int (b : Int) : m_is_fault [.int b] = .ok (.bool false) := by simp [m_is_fault, g_is_fault]
@[simp] theorem isf_str (b : Str) : m_is_fault [.str b] = .ok (.bool false) := by simp [m_is_fault, g_is_fault]
/-! the least fault -/
def pF (d : PyData) : Bool := match m_is_fault [d] with
  | .ok (.bool b) => b
  | _ => false
def codeOf : PyData → Int
  | .tuple [_, .int c] => c
  | _ => 0
def codes (ds : List PyData) : List Int := (ds.filter pF).map codeOf
/-- an argument: null, a fault, a value -/
inductive Ar : PyData → Prop
  | non : Ar .none
  | flt (c : Int) (h1 : 1 ≤ c) (h2 : c ≤ 4) : Ar (faultD c)
  | bl (b : Bool) : Ar (.bool b)
  | int (i : Int) : Ar (.int i)
  | str (z : Str) : Ar (.str z)
@[simp] theorem pF_none : pF .none = false := by unfold pF; rw [isf_none]
@[simp] theorem pF_bool (b : Bool) : pF (.bool b) = false := by unfold pF; rw [isf_bool]
@[simp] theorem pF_int (b : Int) : pF (.int b) = false := by unfold pF; rw [isf_int]
@[simp] theorem pF_str (b : Str) : pF (.str b) = false := by unfold pF; rw [isf_str]
theorem pF_fault {c : Int} (h1 : 1 ≤ c) (h2 : c ≤ 4) : pF (faultD c) = true := by unfold pF; rw [isf_fault c h1 h2]
theorem ar_is {d : PyData} (a : Ar d) : m_is_fault [d] = .ok (.bool (pF d)) ∧ (pF d = true → ∃ c, d = faultD c) := by
  cases a with
  | non => exact ⟨by simp, fun h => by simp at h⟩
  | flt c h1 h2 => exact ⟨by rw [isf_fault c h1 h2, pF_fault h1 h2], fun _ => ⟨c, rfl⟩⟩
  | bl b => exact ⟨by simp, fun h => by simp at h⟩
  | int b => exact ⟨by simp, fun h => by simp at h⟩
  | str b => exact ⟨by simp, fun h => by simp at h⟩
theorem comp_least {ds : List PyData} (h : ∀ d ∈ ds, Ar d) (a b : Sl) : compL (bName 2) u2_least_fault e1_least_fault [a, b, .un] ds = .ok ((codes ds).map .int) := by
  unfold codes
  rw [List.map_map]
  refine compL_filter 2 ds (fun d hd => ?_) fun d hd hp => ?_
  · obtain ⟨e1, _⟩ := ar_is (h d hd)
    unfold u2_least_fault
    simp [e1]
  · obtain ⟨_, e2⟩ := ar_is (h d hd)
    obtain ⟨c, rfl⟩ := e2 hp
    unfold e1_least_fault
    simp [faultD, codeOf]
def leastD (ds : List PyData) : PyData := match minI (codes ds) with
  | some m => faultD m
  | none => .none
theorem least_list {ds : List PyData} (h : ∀ d ∈ ds, Ar d) (hl : ds.length ≤ 16777216) : m_least_fault [.list ds] = .ok (leastD ds) := by
  unfold m_least_fault g_least_fault leastD
  cases e : codes ds with
  | nil => simp [hl, comp_least h, e, minI]
  | cons n ns =>
    have hm : minLD [.list (.int n :: ns.map .int)] = some (.int (ns.foldl min n)) := minLD_map (n :: ns)
    simp [hl, comp_least h, e, minI, faultD_is, hm]
theorem least_tuple {ds : List PyData} (h : ∀ d ∈ ds, Ar d) (hl : ds.length ≤ 16777216) : m_least_fault [.tuple ds] = .ok (leastD ds) := by
  unfold m_least_fault g_least_fault leastD
  cases e : codes ds with
  | nil => simp [hl, comp_least h, e, minI]
  | cons n ns =>
    have hm : minLD [.list (.int n :: ns.map .int)] = some (.int (ns.foldl min n)) := minLD_map (n :: ns)
    simp [hl, comp_least h, e, minI, faultD_is, hm]
/-! strict operators: nulls and faults -/
def noneD : PyData → Bool
  | .none => true
  | _ => false
theorem ar_isD {d : PyData} (a : Ar d) : isD d .none = some (.bool (noneD d)) := by cases a <;> rfl
/-- the loop that looks for a null -/
theorem nulls_loop (s0 s1 s3 : Sl) : ∀ (ds : List PyData) (h : ∀ d ∈ ds, Ar d) (s2 : Sl),
    (ds.any noneD = true → forL (bName 2) b1_worked ds [s0, s1, s2, s3] = .rt .none) ∧ (ds.any noneD = false → ∃ t2, forL (bName 2) b1_worked ds [s0, s1, s2, s3] = .nx [s0, s1, t2, s3])
  | [], _, s2 => ⟨(fun h => by cases h), fun _ => ⟨s2, rfl⟩⟩
  | d :: ds, h, s2 => by
    have ih := nulls_loop s0 s1 s3 ds (fun x hx => h x (List.mem_cons_of_mem _ hx)) (.val d)
    have hd := ar_isD (h d List.mem_cons_self)
    rw [forL_name]
    have one : b1_worked ([s0, s1, s2, s3].set 2 (.val d)) = if noneD d = true then .rt .none else .nx [s0, s1, .val d, s3] := by
      unfold b1_worked
      cases hn : noneD d <;> simp [hd, hn]
    rw [one, List.any_cons]
    cases hn : noneD d with
    | true => exact ⟨fun _ => rfl, fun q => by cases q⟩
    | false => simpa using ih
theorem leastD_none {ds : List PyData} (h : ds.any pF = false) : leastD ds = .none := by
  have : ds.filter pF = [] := List.filter_eq_nil_iff.mpr fun d hd => by
    have := List.any_eq_false.mp h d hd
    simpa using this
  unfold leastD codes
  rw [this]
  rfl
theorem worked_is {n : Str} (hs : m_is_strict [.str n] = .ok (.bool true)) {ds : List PyData} (h : ∀ d ∈ ds, Ar d) (hl : ds.length ≤ 16777216) :
    m_worked [.str n, .tuple ds] = if ds.any noneD = true then .ok .none else if ds.any pF = true then .ok (leastD ds) else m_strict [.str n, .tuple ds] := by
  obtain ⟨n1, n2⟩ := nulls_loop (.val (.str n)) (.val (.tuple ds)) .un ds h .un
  have hlt := least_tuple h hl
  unfold m_worked g_worked
  cases hn : ds.any noneD with
  | true => simp [hs, n1 hn]
  | false =>
    obtain ⟨t2, e⟩ := n2 hn
    cases hp : ds.any pF with
    | false =>
      rw [leastD_none hp] at hlt
      simp [hs, e, hlt]
      cases m_strict [.str n, .tuple ds] <;> rfl
    | true =>
      have : ∃ m, leastD ds = faultD m := by
        unfold leastD codes
        obtain ⟨d, hd, hq⟩ := List.any_eq_true.mp hp
        cases e2 : (ds.filter pF).map codeOf with
        | nil =>
          have : d ∈ ds.filter pF := List.mem_filter.mpr ⟨hd, hq⟩
          rw [List.map_eq_nil_iff.mp e2] at this
          cases this
        | cons m ms => exact ⟨_, rfl⟩
      obtain ⟨m, hm⟩ := this
      rw [hm] at hlt ⊢
      have hi : isNotD (faultD m) .none = some (.bool true) := rfl
      simp [hs, e, hlt, hi]
/-- the law's own word of nulls and faults -/
def toldD (ds : List PyData) : PyData := if ds.any noneD = true then .tuple [.bool true, .none] else if ds.any pF = true then .tuple [.bool true, leastD ds] else .tuple [.bool false, .none]
/-- the law's codes -/
theorem told_loop (s0 : Sl) : ∀ (ds : List PyData) (h : ∀ d ∈ ds, Ar d) (cs : List Int) (hc : cs.length + ds.length ≤ 1000) (s2 : Sl),
    (ds.any noneD = true → forL (bName 2) b1_law_strict ds [s0, .own (cs.map .int), s2] = .rt (.tuple [.bool true, .none])) ∧
    (ds.any noneD = false → ∃ t2, forL (bName 2) b1_law_strict ds [s0, .own (cs.map .int), s2] = .nx [s0, .own ((cs ++ codes ds).map .int), t2])
  | [], _, cs, hc, s2 => ⟨(fun h => by cases h), fun _ => ⟨s2, by simp [codes]⟩⟩
  | d :: ds, h, cs, hc, s2 => by
    rw [List.length_cons] at hc
    have hl : cs.length < 16777216 := by omega
    rw [forL_name, List.any_cons]
    have ha := h d List.mem_cons_self
    have hr : ∀ x ∈ ds, Ar x := fun x hx => h x (List.mem_cons_of_mem _ hx)
    have ih := told_loop s0 ds hr cs (by omega) (.val d)
    cases ha with
    | non => exact ⟨fun _ => by unfold b1_law_strict; simp, fun q => by cases q⟩
    | flt c h1 h2 =>
      have ih2 := told_loop s0 ds hr (cs ++ [c]) (by rw [List.length_append, List.length_singleton]; omega) (.val (faultD c))
      have one : b1_law_strict ([s0, .own (cs.map .int), s2].set 2 (.val (faultD c))) = .nx [s0, .own ((cs ++ [c]).map .int), .val (faultD c)] := by
        unfold b1_law_strict
        simp [faultD_is, hl]
      rw [one]
      have hcd : codes (faultD c :: ds) = c :: codes ds := by
        unfold codes
        rw [List.filter_cons_of_pos (pF_fault h1 h2)]
        rfl
      rw [hcd]
      rw [List.append_assoc] at ih2
      simpa [noneD, faultD] using ih2
    | bl b =>
      have hcd : codes (.bool b :: ds) = codes ds := by unfold codes; rw [List.filter_cons_of_neg (by simp)]
      have one : b1_law_strict ([s0, .own (cs.map .int), s2].set 2 (.val (.bool b))) = .nx [s0, .own (cs.map .int), .val (.bool b)] := by unfold b1_law_strict; simp
      rw [one, hcd]
      simpa [noneD] using ih
    | int b =>
      have hcd : codes (.int b :: ds) = codes ds := by unfold codes; rw [List.filter_cons_of_neg (by simp)]
      have one : b1_law_strict ([s0, .own (cs.map .int), s2].set 2 (.val (.int b))) = .nx [s0, .own (cs.map .int), .val (.int b)] := by unfold b1_law_strict; simp
      rw [one, hcd]
      simpa [noneD] using ih
    | str b =>
      have hcd : codes (.str b :: ds) = codes ds := by unfold codes; rw [List.filter_cons_of_neg (by simp)]
      have one : b1_law_strict ([s0, .own (cs.map .int), s2].set 2 (.val (.str b))) = .nx [s0, .own (cs.map .int), .val (.str b)] := by unfold b1_law_strict; simp
      rw [one, hcd]
      simpa [noneD] using ih
theorem codes_nice (ns : List Int) : niceD 64 (.list (ns.map .int)) = true := niceD_mono (nice_list (n := 0) fun x hx => by
  obtain ⟨n, _, rfl⟩ := List.mem_map.mp hx
  simp) (by decide)
theorem codes_any (ds : List PyData) : (codes ds = []) ↔ ds.any pF = false := by
  unfold codes
  rw [List.map_eq_nil_iff, List.filter_eq_nil_iff, List.any_eq_false]
theorem told_is {ds : List PyData} (h : ∀ d ∈ ds, Ar d) (hl : ds.length ≤ 1000) : m_law_strict [.tuple ds] = .ok (toldD ds) := by
  obtain ⟨n1, n2⟩ := told_loop (.val (.tuple ds)) ds h [] (by simpa using hl) .un
  rw [List.map_nil] at n1 n2
  rw [List.nil_append] at n2
  unfold m_law_strict g_law_strict toldD
  cases hn : ds.any noneD with
  | true => simp [n1 hn]
  | false =>
    obtain ⟨t2, e⟩ := n2 hn
    have hne := neD_nice (codes_nice (codes ds)) (codes_nice [])
    cases hc : codes ds with
    | nil =>
      rw [hc] at e hne
      have := (codes_any ds).mp hc
      simp [e, this] at hne ⊢
      simp [hne, PyData.eqv, PyData.eqvAll]
    | cons m ms =>
      rw [hc] at e hne
      have hp : ds.any pF = true := by
        cases q : ds.any pF with
        | true => rfl
        | false => rw [(codes_any ds).mpr q] at hc; cases hc
      have hm : minLD [.list (.int m :: ms.map .int)] = some (.int (ms.foldl min m)) := minLD_map (m :: ms)
      simp [e, hp] at hne ⊢
      simp [hne, PyData.eqv, PyData.eqvAll, hm, leastD, hc, minI, faultD_is]

/-! what is due is what is -/
theorem is_none : m_law_is [.none, .none] = .ok (.bool true) := by simp [m_law_is, g_law_is]
theorem is_fault (c : Int) : m_law_is [faultD c, faultD c] = .ok (.bool true) := by
  have e := eqD_nice (niceD_mono (nice_fault c) (by decide)) (niceD_mono (nice_fault c) (by decide))
  rw [eqv_same (nice_fault c)] at e
  rw [faultD_is] at e ⊢
  simp [m_law_is, g_law_is, e]
theorem is_int (i : Int) : m_law_is [.int i, .int i] = .ok (.bool true) := by simp [m_law_is, g_law_is]
theorem is_bool (i : Bool) : m_law_is [.bool i, .bool i] = .ok (.bool true) := by simp [m_law_is, g_law_is]
theorem is_str (i : Str) : m_law_is [.str i, .str i] = .ok (.bool true) := by simp [m_law_is, g_law_is]
theorem leastD_fault {ds : List PyData} (h : ds.any pF = true) : ∃ m, leastD ds = faultD m := by
  unfold leastD codes
  obtain ⟨d, hd, hq⟩ := List.any_eq_true.mp h
  cases e2 : (ds.filter pF).map codeOf with
  | nil =>
    have : d ∈ ds.filter pF := List.mem_filter.mpr ⟨hd, hq⟩
    rw [List.map_eq_nil_iff.mp e2] at this
    cases this
  | cons m ms => exact ⟨_, rfl⟩
/-! an argument out of a value -/
theorem arg_is (d : PyData) (x : Int) : ∃ e, m_law_arg [d, .int x] = .ok e ∧ (e = .none ∨ (∃ c, e = faultD c ∧ 1 ≤ c ∧ c ≤ 4) ∨ e = d) := by
  by_cases c0 : x.fmod 9 = 0
  · exact ⟨.none, by simp [m_law_arg, g_law_arg, c0], .inl rfl⟩
  by_cases c1 : x.fmod 9 = 1
  · have := fmod_bound (a := x.fdiv 9) (b := 4) (by decide)
    exact ⟨faultD (1 + (x.fdiv 9).fmod 4), by simp [m_law_arg, g_law_arg, c1, faultD_is], .inr (.inl ⟨_, rfl, by omega, by omega⟩)⟩
  · exact ⟨d, by simp [m_law_arg, g_law_arg, c0, c1], .inr (.inr rfl)⟩
/-! what fits a pattern -/
inductive Fit : List Nat → List Nat → Prop where
  | nil : Fit [] []
  | star0 {p t : List Nat} : Fit p t → Fit (42 :: p) t
  | star1 {p : List Nat} {c : Nat} {t : List Nat} : Fit (42 :: p) t → Fit (42 :: p) (c :: t)
  | one {m : Nat} {p : List Nat} {c : Nat} {t : List Nat} : m ≠ 42 → (m = 63 ∨ m = c) → Fit p t → Fit (m :: p) (c :: t)
theorem fit_ext {p t : List Nat} (h : Fit (42 :: p) t) : ∀ x : List Nat, Fit (42 :: p) (x ++ t)
  | [] => h
  | _ :: x => .star1 (fit_ext h x)
theorem fit_one {m : Nat} {p u : List Nat} (hm : m ≠ 42) (h : Fit (m :: p) u) : ∃ c t, u = c :: t ∧ (m = 63 ∨ m = c) ∧ Fit p t := by
  cases h with
  | star0 _ => exact absurd rfl hm
  | star1 _ => exact absurd rfl hm
  | one _ a b => exact ⟨_, _, rfl, a, b⟩
theorem fit_star {p : List Nat} : ∀ {u : List Nat}, Fit (42 :: p) u ↔ ∃ a b, u = a ++ b ∧ Fit p b
  | [] => ⟨fun h => by
      cases h with
      | star0 h => exact ⟨[], [], rfl, h⟩, fun ⟨a, b, e, h⟩ => by
      have : b = [] := (List.append_eq_nil_iff.mp e.symm).2
      subst this
      exact .star0 h⟩
  | c :: u => ⟨fun h => by
      cases h with
      | star0 h => exact ⟨[], _, rfl, h⟩
      | star1 h =>
        obtain ⟨a, b, e, q⟩ := fit_star.mp h
        exact ⟨c :: a, b, by rw [e]; rfl, q⟩
      | one a _ _ => exact absurd rfl a, fun ⟨a, b, e, h⟩ => by
      rw [e]
      exact fit_ext (.star0 h) a⟩
theorem fit_app : ∀ {p q u : List Nat}, Fit (p ++ q) u ↔ ∃ a b, u = a ++ b ∧ Fit p a ∧ Fit q b
  | [], q, u => ⟨fun h => ⟨[], u, rfl, .nil, h⟩, fun ⟨a, b, e, h1, h2⟩ => by cases h1; rw [e]; exact h2⟩
  | m :: p, q, u => by
    by_cases hm : m = 42
    · subst hm
      rw [List.cons_append, fit_star]
      constructor
      · rintro ⟨a, b, rfl, h⟩
        obtain ⟨b1, b2, rfl, h1, h2⟩ := fit_app.mp h
        exact ⟨a ++ b1, b2, by rw [List.append_assoc], fit_star.mpr ⟨a, b1, rfl, h1⟩, h2⟩
      · rintro ⟨a, b, rfl, h1, h2⟩
        obtain ⟨a1, a2, rfl, h3⟩ := fit_star.mp h1
        exact ⟨a1, a2 ++ b, by rw [List.append_assoc], fit_app.mpr ⟨a2, b, rfl, h3, h2⟩⟩
    · constructor
      · intro h
        obtain ⟨c, t, rfl, h1, h2⟩ := fit_one hm h
        obtain ⟨b1, b2, rfl, h3, h4⟩ := fit_app.mp h2
        exact ⟨c :: b1, b2, rfl, .one hm h1 h3, h4⟩
      · rintro ⟨a, b, rfl, h1, h2⟩
        obtain ⟨c, t, rfl, h3, h4⟩ := fit_one hm h1
        exact .one hm h3 (fit_app.mpr ⟨t, b, rfl, h4, h2⟩)
theorem fit_len : ∀ {s a : List Nat}, (∀ m ∈ s, m ≠ 42) → Fit s a → a.length = s.length
  | [], a, _, h => by cases h; rfl
  | m :: s, a, n, h => by
    obtain ⟨c, t, rfl, _, h2⟩ := fit_one (n m List.mem_cons_self) h
    rw [List.length_cons, List.length_cons, fit_len (fun x hx => n x (List.mem_cons_of_mem _ hx)) h2]
theorem fit_seg {s a q r : List Nat} (n : ∀ m ∈ s, m ≠ 42) (h : Fit s a) : Fit (s ++ q) (a ++ r) ↔ Fit q r := by
  rw [fit_app]
  constructor
  · rintro ⟨x, y, e, h1, h2⟩
    obtain ⟨rfl, rfl⟩ := List.append_inj e (by rw [fit_len n h, fit_len n h1])
    exact h2
  · exact fun h2 => ⟨a, r, rfl, h, h2⟩
/-- a further star: what stood before it may stay where it is -/
theorem fit_next {s a q r : List Nat} (n : ∀ m ∈ s, m ≠ 42) (h : Fit s a) : Fit (42 :: (s ++ 42 :: q)) (a ++ r) ↔ Fit (42 :: q) r := by
  constructor
  · intro f
    obtain ⟨x, y, e, h1⟩ := fit_star.mp f
    obtain ⟨y1, y2, rfl, h2, h3⟩ := fit_app.mp h1
    have l1 := fit_len n h
    have l2 := fit_len n h2
    have e2 : r = (x ++ y1).drop a.length ++ y2 := by
      have := congrArg (List.drop a.length) e
      rw [List.drop_left, ← List.append_assoc, List.drop_append_of_le_length (by rw [List.length_append]; omega)] at this
      exact this
    rw [e2]
    exact fit_ext h3 _
  · exact fun f => .star0 ((fit_seg n h).mpr f)
theorem fit_end {s a q : List Nat} (n : ∀ m ∈ s, m ≠ 42) (h : Fit s a) : Fit (42 :: (s ++ q)) a ↔ Fit q [] := by
  constructor
  · intro f
    obtain ⟨x, y, e, h1⟩ := fit_star.mp f
    obtain ⟨y1, y2, rfl, h2, h3⟩ := fit_app.mp h1
    have l1 := fit_len n h
    have l2 := fit_len n h2
    have l3 := congrArg List.length e
    simp only [List.length_append] at l3
    have : y2 = [] := List.eq_nil_of_length_eq_zero (by omega)
    rw [this] at h3
    exact h3
  · intro f
    have := (fit_seg (r := []) n h).mpr f
    rw [List.append_nil] at this
    exact .star0 this
/-- where the next sign does not fit, the star takes one more -/
theorem fit_miss {s a q r : List Nat} {d : Nat} {u : List Nat} (n : ∀ m ∈ s, m ≠ 42) (h : Fit s a) (e : d :: u = a ++ r) (hq : ¬ Fit q r) : Fit (42 :: (s ++ q)) (d :: u) ↔ Fit (42 :: (s ++ q)) u := by
  constructor
  · intro f
    cases f with
    | star0 f => rw [e] at f; exact absurd ((fit_seg n h).mp f) hq
    | star1 f => exact f
    | one a _ _ => exact absurd rfl a
  · exact .star1
theorem fit_nil {q : List Nat} : Fit q [] ↔ ∀ m ∈ q, m = 42 := by
  induction q with
  | nil => exact ⟨(fun _ m h => by cases h), fun _ => Fit.nil⟩
  | cons m q ih =>
    constructor
    · intro h
      cases h with
      | star0 h =>
        intro x hx
        rcases List.mem_cons.mp hx with rfl | hx
        · rfl
        · exact ih.mp h x hx
    · intro h
      have := h m List.mem_cons_self
      subst this
      exact .star0 (ih.mpr fun x hx => h x (List.mem_cons_of_mem _ hx))
/-! the walk over both -/
structure Iv (P T : List Nat) (at_ here : Nat) (star : Int) (mark : Nat) : Prop where
  h1 : here ≤ P.length
  h2 : at_ ≤ T.length
  h3 : (star = -1 ∧ (Fit P T ↔ Fit (P.drop here) (T.drop at_))) ∨ ∃ (st : Nat) (s a : List Nat), star = st ∧ st < here ∧ P.drop st = 42 :: (s ++ P.drop here) ∧ (∀ m ∈ s, m ≠ 42) ∧ T.drop mark = a ++ T.drop at_ ∧ Fit s a ∧ mark ≤ at_ ∧ (Fit P T ↔ Fit (42 :: (s ++ P.drop here)) (T.drop mark))
  h4 : mark ≤ at_
  h5 : -1 ≤ star
  h6 : star < here
theorem drop_step {α : Type} {l : List α} {k : Nat} {x : α} (h : l[k]? = some x) : l.drop k = x :: l.drop (k + 1) := by
  obtain ⟨hk, e⟩ := List.getElem?_eq_some_iff.mp h
  rw [List.drop_eq_getElem_cons hk, e]
theorem iv_star {P T : List Nat} {at_ here mark : Nat} {star : Int} (I : Iv P T at_ here star mark) (hp : P[here]? = some 42) : Iv P T at_ (here + 1) here at_ := by
  have hl := (List.getElem?_eq_some_iff.mp hp).1
  have e := drop_step hp
  refine ⟨hl, I.h2, .inr ⟨here, [], [], rfl, Nat.lt_succ_self _, by rw [e]; rfl, (fun m hm => by cases hm), rfl, .nil, Nat.le_refl _, ?_⟩, Nat.le_refl _, by omega, by omega⟩
  rcases I.h3 with ⟨_, h⟩ | ⟨st, s, a, _, _, _, n, e2, f, _, h⟩
  · rw [h, e]; rfl
  · rw [h, e, e2, fit_next n f]; rfl
theorem iv_step {P T : List Nat} {at_ here mark : Nat} {star : Int} (I : Iv P T at_ here star mark) {m c : Nat} (hp : P[here]? = some m) (ht : T[at_]? = some c) (hm : m ≠ 42) (hmc : m = 63 ∨ m = c) : Iv P T (at_ + 1) (here + 1) star mark := by
  have hl := (List.getElem?_eq_some_iff.mp hp).1
  have hl2 := (List.getElem?_eq_some_iff.mp ht).1
  have e := drop_step hp
  have e2 := drop_step ht
  refine ⟨hl, hl2, ?_, by have := I.h4; omega, I.h5, by have := I.h6; omega⟩
  rcases I.h3 with ⟨hs, h⟩ | ⟨st, s, a, hs, hst, ep, n, e3, f, hma, h⟩
  · refine .inl ⟨hs, ?_⟩
    rw [h, e, e2]
    constructor
    · intro q
      obtain ⟨c', t, e', _, q⟩ := fit_one hm q
      cases e'
      exact q
    · exact fun q => .one hm hmc q
  · refine .inr ⟨st, s ++ [m], a ++ [c], hs, by omega, by rw [ep, e]; simp, ?_, by rw [e3, e2]; simp, ?_, by omega, by rw [h, e]; simp⟩
    · intro x hx
      rcases List.mem_append.mp hx with hx | hx
      · exact n x hx
      · rw [List.mem_singleton.mp hx]; exact hm
    · exact fit_app.mpr ⟨a, [c], rfl, f, .one hm hmc .nil⟩
theorem iv_back {P T : List Nat} {at_ here mark : Nat} {st : Nat} (I : Iv P T at_ here st mark) (ha : at_ < T.length) (hq : ¬ Fit (P.drop here) (T.drop at_)) : Iv P T (mark + 1) (st + 1) st (mark + 1) := by
  rcases I.h3 with ⟨hs, h⟩ | ⟨st', s, a, hs, hst, ep, n, e3, f, hma, h⟩
  · omega
  have hs' : st = st' := by omega
  subst hs'
  have hm : mark < T.length := by omega
  have e4 : T.drop mark = T[mark] :: T.drop (mark + 1) := List.drop_eq_getElem_cons hm
  have e5 : P.drop (st + 1) = s ++ P.drop here := by
    have := congrArg List.tail ep
    rw [List.tail_drop] at this
    exact this
  refine ⟨by have := I.h1; omega, hm, .inr ⟨st, [], [], rfl, Nat.lt_succ_self _, by rw [ep, e5]; rfl, (fun m hm => by cases hm), rfl, .nil, Nat.le_refl _, ?_⟩, Nat.le_refl _, by omega, by omega⟩
  rw [h, e4, e5]
  exact fit_miss n f (by rw [← e4, e3]) hq
theorem iv_end {P T : List Nat} {here mark : Nat} {star : Int} (I : Iv P T T.length here star mark) : Fit P T ↔ Fit (P.drop here) [] := by
  rcases I.h3 with ⟨hs, h⟩ | ⟨st', s, a, hs, hst, ep, n, e3, f, hma, h⟩
  · rw [h, List.drop_length]
  · rw [h, e3, List.drop_length, List.append_nil, fit_end n f]
section
variable {P T : List Nat} (hP : P.length ≤ 1000) (hT : T.length ≤ 1000)
abbrev S6 (P T : List Nat) (at_ here star mark : Int) : Sls := [.val (.str (tx T)), .val (.str (tx P)), .val (.int at_), .val (.int here), .val (.int star), .val (.int mark)]
include hP hT
theorem b_star {at_ here : Nat} {star mark : Int} (hp : P[here]? = some 42) : b1_matches (S6 P T at_ here star mark) = .nx (S6 P T at_ ((here + 1 : Nat) : Int) here at_) := by
  have hl := (List.getElem?_eq_some_iff.mp hp).1
  have k1 : P.length ≤ 16777216 := by omega
  unfold b1_matches S6
  simp [-List.getElem?_eq_getElem, -getElem?_pos, k1, hl, atI_nat, hp]
  simp
theorem b_step {at_ here : Nat} {star mark : Int} {m c : Nat} (hp : P[here]? = some m) (ht : T[at_]? = some c) (hm : m ≠ 42) (hmc : m = 63 ∨ m = c) : b1_matches (S6 P T at_ here star mark) = .nx (S6 P T ((at_ + 1 : Nat) : Int) ((here + 1 : Nat) : Int) star mark) := by
  have hl := (List.getElem?_eq_some_iff.mp hp).1
  have k1 : P.length ≤ 16777216 := by omega
  have k2 : T.length ≤ 16777216 := by omega
  unfold b1_matches S6
  simp [-List.getElem?_eq_getElem, -getElem?_pos, k1, k2, hl, atI_nat, hp, ht, hm, eqv_str_str]
  rcases hmc with rfl | rfl <;> simp
theorem b_miss {at_ here : Nat} {star mark : Int} {c : Nat} (ht : T[at_]? = some c) (hp : P.length ≤ here ∨ ∃ m, P[here]? = some m ∧ m ≠ 42 ∧ ¬ (m = 63 ∨ m = c)) : b1_matches (S6 P T at_ here star mark) = if 0 ≤ star then .nx (S6 P T (mark + 1) (star + 1) star (mark + 1)) else .rt (.bool false) := by
  have k1 : P.length ≤ 16777216 := by omega
  have k2 : T.length ≤ 16777216 := by omega
  unfold b1_matches S6
  rcases hp with hp | ⟨m, hp, h1, h2⟩
  · have hl : ¬ here < P.length := by omega
    by_cases h0 : 0 ≤ star <;> simp [k1, k2, hl, h0]
  · have hl := (List.getElem?_eq_some_iff.mp hp).1
    have h3 : ¬ 63 = m := fun z => h2 (.inl z.symm)
    have h4 : ¬ c = m := fun z => h2 (.inr z.symm)
    by_cases h0 : 0 ≤ star <;> simp [-List.getElem?_eq_getElem, -getElem?_pos, k1, k2, hl, h0, atI_nat, hp, ht, h1, h3, h4, eqv_str_str] <;> simp
theorem t_is {at_ : Nat} {here star mark : Int} : t2_matches (S6 P T at_ here star mark) = .ok (decide (at_ < T.length)) := by
  have k2 : T.length ≤ 16777216 := by omega
  unfold t2_matches S6
  simp [k2]
theorem loop1 : ∀ (n fuel : Nat) (at_ here : Nat) (star : Int) (mark : Nat), Iv P T at_ here star mark → (P.length - (star + 1).toNat) + (T.length - mark) * (T.length + 1) + (T.length - at_) ≤ n → n < fuel →
    (∃ (here2 : Nat) (star2 mark2 : Int), whileN t2_matches b1_matches fuel (S6 P T at_ here star mark) = .nx (S6 P T T.length here2 star2 mark2) ∧ here2 ≤ P.length ∧ (Fit P T ↔ Fit (P.drop here2) [])) ∨ (whileN t2_matches b1_matches fuel (S6 P T at_ here star mark) = .rt (.bool false) ∧ ¬ Fit P T) := by
  intro n
  induction n using Nat.strongRecOn with
  | _ n ih =>
    intro fuel at_ here star mark I hn hf
    obtain ⟨fuel, rfl⟩ : ∃ f, fuel = f + 1 := ⟨fuel - 1, by omega⟩
    have i1 := I.h1
    have i2 := I.h2
    have i4 := I.h4
    have i5 := I.h5
    have i6 := I.h6
    simp only [whileN, t_is hP hT]
    by_cases ha : at_ < T.length
    · rw [decide_eq_true ha]
      have ht : T[at_]? = some T[at_] := List.getElem?_eq_getElem ha
      by_cases hs : P[here]? = some 42
      · have hl := (List.getElem?_eq_some_iff.mp hs).1
        simp only [b_star hP hT hs]
        have hmul : (T.length - at_) * (T.length + 1) ≤ (T.length - mark) * (T.length + 1) := Nat.mul_le_mul_right _ (by omega)
        exact ih (P.length - (((here : Nat) : Int) + 1).toNat + (T.length - at_) * (T.length + 1) + (T.length - at_)) (by omega) fuel at_ (here + 1) here at_ (iv_star I hs) (Nat.le_refl _) (by omega)
      · by_cases hx : ∃ m, P[here]? = some m ∧ (m = 63 ∨ m = T[at_])
        · obtain ⟨m, hp, hmc⟩ := hx
          have hm : m ≠ 42 := fun z => hs (by rw [hp, z])
          simp only [b_step hP hT hp ht hm hmc]
          exact ih (P.length - (star + 1).toNat + (T.length - mark) * (T.length + 1) + (T.length - (at_ + 1))) (by omega) fuel (at_ + 1) (here + 1) star mark (iv_step I hp ht hm hmc) (Nat.le_refl _) (by omega)
        · have hp : P.length ≤ here ∨ ∃ m, P[here]? = some m ∧ m ≠ 42 ∧ ¬ (m = 63 ∨ m = T[at_]) := by
            by_cases hl : P.length ≤ here
            · exact .inl hl
            · have hp : P[here]? = some P[here] := List.getElem?_eq_getElem (by omega)
              exact .inr ⟨_, hp, fun z => hs (by rw [hp, z]), fun z => hx ⟨_, hp, z⟩⟩
          have hq : ¬ Fit (P.drop here) (T.drop at_) := by
            rcases hp with hl | ⟨m, hp, h1, h2⟩
            · rw [List.drop_eq_nil_of_le hl, drop_step ht]
              intro z; cases z
            · rw [drop_step hp, drop_step ht]
              intro z
              obtain ⟨c', t, e', h3, _⟩ := fit_one h1 z
              cases e'
              exact h2 h3
          simp only [b_miss hP hT ht hp]
          by_cases h0 : 0 ≤ star
          · obtain ⟨st, rfl⟩ := Int.eq_ofNat_of_zero_le h0
            rw [if_pos h0]
            have hmk : mark < T.length := by omega
            have hmul : (T.length - (mark + 1)) * (T.length + 1) + (T.length + 1) = (T.length - mark) * (T.length + 1) := by
              rw [show T.length - mark = (T.length - (mark + 1)) + 1 by omega, Nat.add_mul, Nat.one_mul]
            exact ih (P.length - (((st : Nat) : Int) + 1).toNat + (T.length - (mark + 1)) * (T.length + 1) + (T.length - (mark + 1))) (by omega) fuel (mark + 1) (st + 1) st (mark + 1) (iv_back I ha hq) (Nat.le_refl _) (by omega)
          · rw [if_neg h0]
            refine .inr ⟨rfl, ?_⟩
            rcases I.h3 with ⟨_, h⟩ | ⟨st, _, _, e, _⟩
            · rw [h]; exact hq
            · omega
    · have ha2 : at_ = T.length := by omega
      subst ha2
      rw [decide_eq_false ha]
      exact .inl ⟨here, star, mark, rfl, i1, iv_end I⟩
theorem loop2 : ∀ (n fuel here : Nat) (star mark : Int), here ≤ P.length → P.length - here ≤ n → n < fuel →
    ∃ here2 : Nat, whileN t4_matches b3_matches fuel (S6 P T T.length here star mark) = .nx (S6 P T T.length here2 star mark) ∧ (here2 = P.length ↔ Fit (P.drop here) []) := by
  intro n
  induction n with
  | zero =>
    intro fuel here star mark h1 h2 hf
    obtain ⟨fuel, rfl⟩ : ∃ f, fuel = f + 1 := ⟨fuel - 1, by omega⟩
    have k1 : P.length ≤ 16777216 := by omega
    have hl : ¬ here < P.length := by omega
    have e : t4_matches (S6 P T T.length here star mark) = .ok false := by unfold t4_matches S6; simp [k1, hl]
    refine ⟨here, by simp only [whileN, e], ?_⟩
    rw [List.drop_eq_nil_of_le (by omega)]
    exact ⟨fun _ => .nil, fun _ => by omega⟩
  | succ n ih =>
    intro fuel here star mark h1 h2 hf
    obtain ⟨fuel, rfl⟩ : ∃ f, fuel = f + 1 := ⟨fuel - 1, by omega⟩
    have k1 : P.length ≤ 16777216 := by omega
    by_cases hl : here < P.length
    · have hp : P[here]? = some P[here] := List.getElem?_eq_getElem hl
      have e : t4_matches (S6 P T T.length here star mark) = .ok (decide (P[here] = 42)) := by unfold t4_matches S6; simp [-List.getElem?_eq_getElem, -getElem?_pos, k1, hl, atI_nat, hp]
      by_cases h42 : P[here] = 42
      · rw [decide_eq_true h42] at e
        have e2 : b3_matches (S6 P T T.length here star mark) = .nx (S6 P T T.length ((here + 1 : Nat) : Int) star mark) := by unfold b3_matches S6; simp
        obtain ⟨h3, e3, q⟩ := ih fuel (here + 1) star mark hl (by omega) (by omega)
        refine ⟨h3, by simp only [whileN, e, e2]; exact e3, ?_⟩
        rw [q, drop_step hp, h42]
        exact ⟨.star0, fun z => by cases z with | star0 z => exact z⟩
      · rw [decide_eq_false h42] at e
        refine ⟨here, by simp only [whileN, e], ?_⟩
        rw [drop_step hp]
        exact ⟨fun z => by omega, fun z => absurd (fit_nil.mp z _ List.mem_cons_self) h42⟩
    · have e : t4_matches (S6 P T T.length here star mark) = .ok false := by unfold t4_matches S6; simp [k1, hl]
      refine ⟨here, by simp only [whileN, e], ?_⟩
      rw [List.drop_eq_nil_of_le (by omega)]
      exact ⟨fun _ => .nil, fun _ => by omega⟩
end
theorem matches_is {P T : List Nat} (hP : P.length ≤ 40) (hT : T.length ≤ 130) : ∃ b : Bool, m_matches [.str (tx T), .str (tx P)] = .ok (.bool b) ∧ (b = true ↔ Fit P T) := by
  have k1 : P.length ≤ 16777216 := by omega
  have hP1 : P.length ≤ 1000 := by omega
  have hT1 : T.length ≤ 1000 := by omega
  have hm : T.length * (T.length + 1) ≤ 130 * 131 := Nat.mul_le_mul (by omega) (by omega)
  have I0 : Iv P T 0 0 (-1) 0 := ⟨Nat.zero_le _, Nat.zero_le _, .inl ⟨rfl, by rw [List.drop_zero, List.drop_zero]⟩, Nat.le_refl _, by omega, by omega⟩
  have l1 := loop1 hP1 hT1 20000 1000000 0 0 (-1) 0 I0 (by simp only [Nat.sub_zero]; omega) (by decide)
  rcases l1 with ⟨here2, star2, mark2, e, h2, q⟩ | ⟨e, q⟩
  · obtain ⟨h3, e3, q3⟩ := loop2 hP1 hT1 1000 1000000 here2 star2 mark2 h2 (by omega) (by decide)
    refine ⟨decide (h3 = P.length), ?_, by rw [decide_eq_true_iff, q3, q]⟩
    unfold S6 at e e3
    unfold m_matches g_matches w_matches_7 w_matches_21
    simp at e e3
    simp [e, e3, k1, Int.ofNat_inj]
  · refine ⟨false, ?_, by simpa using q⟩
    unfold S6 at e
    unfold m_matches g_matches w_matches_7
    simp at e
    simp [e]
/-! the law's own table -/
theorem fit_any : ∀ b : List Nat, Fit [42] b
  | [] => .star0 .nil
  | c :: b => .star1 (fit_any b)
theorem fit_sn {p u : List Nat} : Fit (p ++ [42]) u ↔ ∃ a b, u = a ++ b ∧ Fit p a := by
  rw [fit_app]
  exact ⟨fun ⟨a, b, e, h, _⟩ => ⟨a, b, e, h⟩, fun ⟨a, b, e, h⟩ => ⟨a, b, e, h, fit_any b⟩⟩
theorem fit_sn0 {p : List Nat} : Fit (p ++ [42]) [] ↔ Fit p [] := by
  rw [fit_sn]
  constructor
  · rintro ⟨a, b, e, h⟩
    rw [(List.append_eq_nil_iff.mp e.symm).1] at h
    exact h
  · exact fun h => ⟨[], [], rfl, h⟩
theorem snoc_cases {t a b : List Nat} {c : Nat} (e : t ++ [c] = a ++ b) : (b = [] ∧ a = t ++ [c]) ∨ ∃ b', b = b' ++ [c] ∧ t = a ++ b' := by
  rcases List.eq_nil_or_concat b with rfl | ⟨b', x, rfl⟩
  · rw [List.append_nil] at e; exact .inl ⟨rfl, e.symm⟩
  · rw [List.concat_eq_append, ← List.append_assoc] at e
    obtain ⟨e1, e2⟩ := List.append_inj' e rfl
    cases e2
    exact .inr ⟨b', by rw [List.concat_eq_append], e1⟩
theorem fit_sn1 {p t : List Nat} {c : Nat} : Fit (p ++ [42]) (t ++ [c]) ↔ Fit (p ++ [42]) t ∨ Fit p (t ++ [c]) := by
  rw [fit_sn, fit_sn]
  constructor
  · rintro ⟨a, b, e, h⟩
    rcases snoc_cases e with ⟨_, e2⟩ | ⟨b', _, e2⟩
    · exact .inr (e2 ▸ h)
    · exact .inl ⟨a, b', e2, h⟩
  · rintro (⟨a, b, e, h⟩ | h)
    · exact ⟨a, b ++ [c], by rw [e, List.append_assoc], h⟩
    · exact ⟨_, [], (List.append_nil _).symm, h⟩
theorem fit_so0 {p : List Nat} {m : Nat} (hm : m ≠ 42) : ¬ Fit (p ++ [m]) [] := fun h => by
  obtain ⟨a, b, e, _, h2⟩ := fit_app.mp h
  obtain ⟨c, t, e2, _, _⟩ := fit_one hm h2
  rw [e2] at e
  have := congrArg List.length e
  simp at this
theorem fit_so1 {p t : List Nat} {m c : Nat} (hm : m ≠ 42) : Fit (p ++ [m]) (t ++ [c]) ↔ Fit p t ∧ (m = 63 ∨ m = c) := by
  rw [fit_app]
  constructor
  · rintro ⟨a, b, e, h1, h2⟩
    obtain ⟨c', t', e2, h3, h4⟩ := fit_one hm h2
    cases h4
    subst e2
    obtain ⟨e3, e4⟩ := List.append_inj' e rfl
    cases e4
    exact ⟨e3 ▸ h1, h3⟩
  · exact fun ⟨h1, h2⟩ => ⟨t, [c], rfl, h1, .one hm h2 .nil⟩
structure Row (T p : List Nat) (bs : List Bool) (n : Nat) : Prop where
  len : bs.length = n
  ok : ∀ k b, bs[k]? = some b → (b = true ↔ Fit p (T.take k))
theorem take_snoc {T : List Nat} {k c : Nat} (h : T[k]? = some c) : T.take (k + 1) = T.take k ++ [c] := by
  obtain ⟨hk, e⟩ := List.getElem?_eq_some_iff.mp h
  rw [List.take_succ, h]; rfl
theorem row_push {T p : List Nat} {bs : List Bool} {n : Nat} {b : Bool} (R : Row T p bs n) (h : b = true ↔ Fit p (T.take n)) : Row T p (bs ++ [b]) (n + 1) := by
  refine ⟨by rw [List.length_append, R.len]; rfl, fun k x e => ?_⟩
  by_cases hk : k < n
  · rw [List.getElem?_append_left (by rw [R.len]; exact hk)] at e
    exact R.ok k x e
  · rw [List.getElem?_append_right (by rw [R.len]; omega), R.len] at e
    have hk2 : k = n := by
      have := (List.getElem?_eq_some_iff.mp e).1
      simp at this
      omega
    subst hk2
    rw [Nat.sub_self] at e
    cases e
    exact h
/-- one mark of the pattern: the signs of the text -/
theorem fits_in {T P p : List Nat} {m : Nat} {rs : List Bool} (hT : T.length ≤ 1000) (R : Row T p rs (T.length + 1)) (s3 : Sl) :
    ∀ (n k : Nat) (as : List Bool) (s6 : Sl), k + n = T.length → Row T (p ++ [m]) as (k + 1) →
    ∃ (as' : List Bool) (t6 : Sl), forL (bName 6) b2_law_fits (rangeD k n) [.val (.str (tx T)), .val (.str (tx P)), .val (.list (rs.map .bool)), s3, .val (.str (tx [m])), .own (as.map .bool), s6] =
      .nx [.val (.str (tx T)), .val (.str (tx P)), .val (.list (rs.map .bool)), s3, .val (.str (tx [m])), .own (as'.map .bool), t6] ∧ Row T (p ++ [m]) as' (T.length + 1)
  | 0, k, as, s6, hk, A => ⟨as, s6, rfl, by have : k = T.length := by omega
                                            rw [← this]; exact A⟩
  | n + 1, k, as, s6, hk, A => by
    rw [rangeD_succ, forL_name, show ((k : Int) + 1) = ((k + 1 : Nat) : Int) by omega]
    have kT : T.length ≤ 16777216 := by omega
    have lA := A.len
    have lR := R.len
    have hr0 : rs[k]? = some (rs[k]'(by omega)) := List.getElem?_eq_getElem (by omega)
    have hr1 : rs[k + 1]? = some (rs[k + 1]'(by omega)) := List.getElem?_eq_getElem (by omega)
    have ha0 : as[k]? = some (as[k]'(by omega)) := List.getElem?_eq_getElem (by omega)
    have ht : T[k]? = some (T[k]'(by omega)) := List.getElem?_eq_getElem (by omega)
    have q0 := R.ok _ _ hr0
    have q1 := R.ok _ _ hr1
    have qa := A.ok _ _ ha0
    generalize rs[k]'(by omega) = r0 at hr0 q0
    generalize rs[k + 1]'(by omega) = r1 at hr1 q1
    generalize as[k]'(by omega) = a0 at ha0 qa
    generalize T[k]'(by omega) = c at ht
    have e1 : atI (rs.map PyData.bool) (k : Int) = some (.bool r0) := by rw [atI_nat, List.getElem?_map, hr0]; rfl
    have e2 : atI (rs.map PyData.bool) ((k : Int) + 1) = some (.bool r1) := by rw [show ((k : Int) + 1) = ((k + 1 : Nat) : Int) by omega, atI_nat, List.getElem?_map, hr1]; rfl
    have e3 : atI (as.map PyData.bool) (k : Int) = some (.bool a0) := by rw [atI_nat, List.getElem?_map, ha0]; rfl
    have e4 : atI T (k : Int) = some c := by rw [atI_nat, ht]
    have hla : as.length < 16777216 := by omega
    have tk := take_snoc ht
    obtain ⟨b, hb, hq⟩ : ∃ b : Bool, b2_law_fits [.val (.str (tx T)), .val (.str (tx P)), .val (.list (rs.map .bool)), s3, .val (.str (tx [m])), .own (as.map .bool), .val (.int k)] =
        .nx [.val (.str (tx T)), .val (.str (tx P)), .val (.list (rs.map .bool)), s3, .val (.str (tx [m])), .own ((as ++ [b]).map .bool), .val (.int k)] ∧ (b = true ↔ Fit (p ++ [m]) (T.take (k + 1))) := by
      by_cases hm : m = 42
      · subst hm
        refine ⟨a0 || r1, ?_, ?_⟩
        · unfold b2_law_fits
          cases a0 <;> simp [e2, e3, hla]
        · rw [tk] at q1 ⊢
          rw [fit_sn1, ← qa, ← q1]
          cases a0 <;> simp
      · refine ⟨r0 && (decide (m = 63) || decide (m = c)), ?_, ?_⟩
        · unfold b2_law_fits
          cases r0
          · simp [e1, hm, hla]
          · by_cases h63 : m = 63
            · simp [e1, hm, h63, hla]
            · simp [e1, e4, hm, h63, hla, kT]
        · rw [tk, fit_so1 hm, ← q0]
          cases r0 <;> simp
    obtain ⟨as', t6, e, A'⟩ := fits_in hT R s3 n (k + 1) (as ++ [b]) (.val (.int k)) (by omega) (row_push A hq)
    refine ⟨as', t6, ?_, A'⟩
    show (b2_law_fits [.val (.str (tx T)), .val (.str (tx P)), .val (.list (rs.map .bool)), s3, .val (.str (tx [m])), .own (as.map .bool), .val (.int k)]).turn _ = _
    rw [hb, turn_nx]
    exact e
/-- the marks of the pattern -/
theorem fits_out {T P : List Nat} (hT : T.length ≤ 1000) (s3 : Sl) : ∀ (l p : List Nat) (rs : List Bool) (s2 s4 s5 s6 : Sl), (s2 = .own (rs.map .bool) ∨ s2 = .val (.list (rs.map .bool))) → Row T p rs (T.length + 1) →
    ∃ (rs' : List Bool) (t2 t4 t5 t6 : Sl), forL (bName 4) b3_law_fits (l.map fun c => .str (tx [c])) [.val (.str (tx T)), .val (.str (tx P)), s2, s3, s4, s5, s6] = .nx [.val (.str (tx T)), .val (.str (tx P)), t2, s3, t4, t5, t6] ∧
      (t2 = .own (rs'.map .bool) ∨ t2 = .val (.list (rs'.map .bool))) ∧ Row T (p ++ l) rs' (T.length + 1)
  | [], p, rs, s2, s4, s5, s6, h2, R => ⟨rs, s2, s4, s5, s6, rfl, h2, by rw [List.append_nil]; exact R⟩
  | m :: l, p, rs, s2, s4, s5, s6, h2, R => by
    rw [List.map_cons, forL_name]
    have kT : T.length ≤ 16777216 := by omega
    have lR := R.len
    have hr0 : rs[0]? = some (rs[0]'(by omega)) := List.getElem?_eq_getElem (by omega)
    have q0 := R.ok _ _ hr0
    generalize rs[0]'(by omega) = r0 at hr0 q0
    have e1 : (rs.map PyData.bool)[0]? = some (.bool r0) := by rw [List.getElem?_map, hr0]; rfl
    have hq : ((r0 && decide (m = 42)) = true) ↔ Fit (p ++ [m]) (T.take 0) := by
      rw [List.take_zero] at q0 ⊢
      by_cases hm : m = 42
      · subst hm; rw [fit_sn0, ← q0]; simp
      · simp [hm, fit_so0 hm]
    have A : Row T (p ++ [m]) [r0 && decide (m = 42)] (0 + 1) := row_push (bs := []) ⟨rfl, fun k b e => by simp at e⟩ hq
    obtain ⟨as', t6, e, A'⟩ := fits_in (P := P) (m := m) hT R s3 T.length 0 [r0 && decide (m = 42)] s6 (by omega) A
    have hr : rng1 [.int (T.length : Int)] = some (rangeD 0 T.length) := rng1_nat T.length (Nat.lt_of_le_of_lt hT (by decide))
    have one : b3_law_fits [.val (.str (tx T)), .val (.str (tx P)), s2, s3, .val (.str (tx [m])), s5, s6] = .nx [.val (.str (tx T)), .val (.str (tx P)), .val (.list (as'.map .bool)), s3, .val (.str (tx [m])), .val (.list (as'.map .bool)), t6] := by
      rw [List.map_cons, List.map_nil] at e
      unfold b3_law_fits
      rcases h2 with rfl | rfl
      · cases r0 <;> simp [e1, kT, hr] at e ⊢ <;> simp [e]
      · cases r0 <;> simp [e1, kT, hr] at e ⊢ <;> simp [e]
    obtain ⟨rs', t2, t4, t5, t6', e3, h3, R3⟩ := fits_out (P := P) hT s3 l (p ++ [m]) as' (.val (.list (as'.map .bool))) (.val (.str (tx [m]))) (.val (.list (as'.map .bool))) t6 (.inr rfl) A'
    refine ⟨rs', t2, t4, t5, t6', ?_, h3, by rw [List.append_assoc] at R3; exact R3⟩
    show (b3_law_fits [.val (.str (tx T)), .val (.str (tx P)), s2, s3, .val (.str (tx [m])), s5, s6]).turn _ = _
    rw [one, turn_nx]
    exact e3
theorem fits_first (T P : List Nat) (s4 s5 s6 : Sl) : ∀ (l : List Nat) (bs : List Bool) (s3 : Sl), bs.length + l.length ≤ 1000 →
    ∃ (bs' : List Bool) (t3 : Sl), forL (bName 3) b1_law_fits (l.map fun c => .str (tx [c])) [.val (.str (tx T)), .val (.str (tx P)), .own (bs.map .bool), s3, s4, s5, s6] = .nx [.val (.str (tx T)), .val (.str (tx P)), .own (bs'.map .bool), t3, s4, s5, s6] ∧
      bs' = bs ++ List.replicate l.length false
  | [], bs, s3, h => ⟨bs, s3, rfl, by simp⟩
  | c :: l, bs, s3, h => by
    rw [List.map_cons, forL_name]
    rw [List.length_cons] at h
    have hl : bs.length < 16777216 := by omega
    have one : b1_law_fits [.val (.str (tx T)), .val (.str (tx P)), .own (bs.map .bool), .val (.str (tx [c])), s4, s5, s6] = .nx [.val (.str (tx T)), .val (.str (tx P)), .own ((bs ++ [false]).map .bool), .val (.str (tx [c])), s4, s5, s6] := by
      unfold b1_law_fits
      simp [hl]
    obtain ⟨bs', t3, e, q⟩ := fits_first T P s4 s5 s6 l (bs ++ [false]) (.val (.str (tx [c]))) (by rw [List.length_append, List.length_singleton]; omega)
    refine ⟨bs', t3, ?_, ?_⟩
    · show (b1_law_fits [.val (.str (tx T)), .val (.str (tx P)), .own (bs.map .bool), .val (.str (tx [c])), s4, s5, s6]).turn _ = _
      rw [one, turn_nx]
      exact e
    · rw [q, List.append_assoc, List.length_cons, List.replicate_succ]; rfl
theorem fits_is {T P : List Nat} (hT : T.length ≤ 900) (hP : P.length ≤ 900) : ∃ b : Bool, m_law_fits [.str (tx T), .str (tx P)] = .ok (.bool b) ∧ (b = true ↔ Fit P T) := by
  have kT : T.length ≤ 16777216 := by omega
  obtain ⟨bs', t3, e, rfl⟩ := fits_first T P .un .un .un T [true] .un (by rw [List.length_singleton]; omega)
  have R0 : Row T [] ([true] ++ List.replicate T.length false) (T.length + 1) := by
    refine ⟨by simp, fun k b h => ?_⟩
    cases k with
    | zero =>
      simp at h
      subst h
      simp
      exact .nil
    | succ k =>
      rw [List.singleton_append, List.getElem?_cons_succ, List.getElem?_replicate] at h
      split at h
      · rename_i hk
        cases h
        rw [take_snoc (List.getElem?_eq_getElem hk)]
        constructor
        · intro z; cases z
        · intro z
          exfalso
          cases he : T.take k ++ [T[k]] with
          | nil => simp at he; simp [he] at hk
          | cons x xs => rw [he] at z; cases z
      · cases h
  obtain ⟨rs', t2, t4, t5, t6, e2, h2, R⟩ := fits_out (P := P) (by omega) t3 P [] ([true] ++ List.replicate T.length false) (.own (([true] ++ List.replicate T.length false).map .bool)) .un .un .un (.inl rfl) R0
  rw [List.nil_append] at R
  have lR := R.len
  have hr : rs'[T.length]? = some (rs'[T.length]'(by omega)) := List.getElem?_eq_getElem (by omega)
  have q := R.ok _ _ hr
  generalize rs'[T.length]'(by omega) = b at hr q
  rw [List.take_length] at q
  have e3 : atI (rs'.map PyData.bool) (T.length : Int) = some (.bool b) := by rw [atI_nat, List.getElem?_map, hr]; rfl
  refine ⟨b, ?_, q⟩
  unfold m_law_fits g_law_fits
  simp at e e2
  rcases h2 with rfl | rfl <;> simp [e, e2, e3, kT]
/-! patterns and texts -/
theorem range_get {lo : Int} {n k : Nat} {d : PyData} (h : (rangeD lo n)[k]? = some d) : k < n ∧ d = .int (lo + k) := by
  unfold rangeD at h
  rw [List.getElem?_map] at h
  cases e : (List.range n)[k]? with
  | none => rw [e] at h; cases h
  | some x =>
    rw [e] at h
    cases h
    have hk : k < n := by
      have := (List.getElem?_eq_some_iff.mp e).1
      simpa using this
    rw [List.getElem?_range hk] at e
    cases e
    exact ⟨hk, rfl⟩
theorem sig_at {l : List Nat} {n : Nat} (hl : l.length = n) (h0 : 0 < n) (x : Int) : ∃ c, atI l (x.fmod n) = some c := by
  have hb := fmod_bound (a := x) (b := (n : Int)) (by omega)
  obtain ⟨c, e, _⟩ := atI_mem (xs := l) hb.1 (by rw [hl]; exact hb.2)
  exact ⟨c, e⟩
theorem sign94 (x : Int) : ∃ c, atI Signs (x.fmod 94) = some c := sig_at signs_len (by decide) x
theorem pattern_is (xs : List Int) (n : Nat) (h : xs.length = 21) (hn : n ≤ 40) : ∃ l : List Nat, m_law_pattern [.list (xs.map .int), .int n] = .ok (.str (tx l)) ∧ l.length ≤ 40 := by
  obtain ⟨x0, h0, _⟩ := at_int xs 0 (by omega)
  obtain ⟨c, hc⟩ := sign94 x0
  have ks : Signs.length ≤ 16777216 := by rw [signs_len]; decide
  have hr : rng1 [.int (n : Int)] = some (rangeD 0 n) := rng1_nat n (Nat.lt_of_le_of_lt hn (by decide))
  obtain ⟨ρ', e, o, s, rfl, ho⟩ := forL_invN (i := 4) (g := b1_law_pattern) (P := fun k ρ => ∃ (o : List Nat) (s : Sl), ρ = [.val (.list (xs.map .int)), .val (.int n), .val (.str (tx [97, 98, 42, 63, 42, 97, c])), .val (.str (tx o)), s] ∧ o.length ≤ k) (rangeD 0 n) 0 (fun k d hd ρ => by
    rintro ⟨o, s, rfl, ho⟩
    obtain ⟨hk, rfl⟩ := range_get hd
    have hb := fmod_bound (a := (0 : Int) + k) (b := 12) (by decide)
    obtain ⟨y, hy, _⟩ := atI_ints (xs := xs) (i := 1 + ((0 : Int) + k).fmod 12) (by omega) (by omega)
    obtain ⟨z, hz⟩ := sig_at (l := [97, 98, 42, 63, 42, 97, c]) (n := 7) rfl (by decide) (y + ((0 : Int) + k).fdiv 12 * 5)
    have k1 : o.length + 1 ≤ 16777216 := by omega
    have hz' : atI [97, 98, 42, 63, 42, 97, c] ((y + ((0 : Int) + k).fdiv 12 * 5).fmod 7) = some z := hz
    simp at hy hz'
    refine ⟨[.val (.list (xs.map .int)), .val (.int n), .val (.str (tx [97, 98, 42, 63, 42, 97, c])), .val (.str (tx (o ++ [z]))), .val (.int k)], ?_, o ++ [z], _, rfl, by rw [List.length_append, List.length_singleton]; omega⟩
    unfold b1_law_pattern
    simp [hy, hz', k1]) _ ⟨[], .un, rfl, Nat.le_refl _⟩
  rw [rangeD_length] at ho
  refine ⟨o, ?_, by omega⟩
  unfold m_law_pattern g_law_pattern
  simp [h0, hc, ks, signs_is, hr, e]
theorem fill_in (xs : List Int) (P : List Nat) (c draw : Nat) (x : Int) (s4 s6 : Sl) (n : Nat) (hn : n ≤ 3) (o : List Nat) (ho : o.length ≤ 1000) : ∃ (o' : List Nat) (t6 : Sl), forL (bName 6) b1_law_filled (rangeD 0 n) [.val (.list (xs.map .int)), .val (.str (tx P)), .val (.str (tx [97, 98, 97, 98, c])), .val (.str (tx o)), s4, .val (.int x), s6] =
    .nx [.val (.list (xs.map .int)), .val (.str (tx P)), .val (.str (tx [97, 98, 97, 98, c])), .val (.str (tx o')), s4, .val (.int x), t6] ∧ o'.length ≤ o.length + 3 := by
  obtain ⟨ρ', e, o', s, rfl, ho⟩ := forL_invN (i := 6) (g := b1_law_filled) (P := fun k ρ => ∃ (o' : List Nat) (s : Sl), ρ = [.val (.list (xs.map .int)), .val (.str (tx P)), .val (.str (tx [97, 98, 97, 98, c])), .val (.str (tx o')), s4, .val (.int x), s] ∧ o'.length ≤ o.length + k) (rangeD 0 n) 0 (fun k d hd ρ => by
    rintro ⟨o', s, rfl, ho'⟩
    obtain ⟨hk, rfl⟩ := range_get hd
    obtain ⟨z, hz⟩ := sig_at (l := [97, 98, 97, 98, c]) (n := 5) rfl (by decide) (x.fdiv 4 + ((0 : Int) + k))
    have k1 : o'.length + 1 ≤ 16777216 := by omega
    have hz' : atI [97, 98, 97, 98, c] ((x.fdiv 4 + ((0 : Int) + k)).fmod 5) = some z := hz
    simp at hz'
    refine ⟨[.val (.list (xs.map .int)), .val (.str (tx P)), .val (.str (tx [97, 98, 97, 98, c])), .val (.str (tx (o' ++ [z]))), s4, .val (.int x), .val (.int k)], ?_, o' ++ [z], _, rfl, by rw [List.length_append, List.length_singleton]; omega⟩
    unfold b1_law_filled
    simp [hz', k1]) _ ⟨o, s6, rfl, Nat.le_refl _⟩
  rw [rangeD_length] at ho
  exact ⟨o', s, e, by omega⟩
theorem filled_is (xs : List Int) (P : List Nat) (h : xs.length = 21) (hP : P.length ≤ 40) : ∃ l : List Nat, m_law_filled [.list (xs.map .int), .str (tx P)] = .ok (.str (tx l)) ∧ l.length ≤ 120 := by
  obtain ⟨x1, h1, _⟩ := at_int xs 1 (by omega)
  obtain ⟨c, hc⟩ := sign94 x1
  have ks : Signs.length ≤ 16777216 := by rw [signs_len]; decide
  have kP : P.length ≤ 16777216 := by omega
  have hr : rng1 [.int (P.length : Int)] = some (rangeD 0 P.length) := rng1_nat P.length (Nat.lt_of_le_of_lt hP (by decide))
  obtain ⟨ρ', e, o, s4, s5, s6, rfl, ho⟩ := forL_invN (i := 4) (g := b2_law_filled) (P := fun k ρ => ∃ (o : List Nat) (s4 s5 s6 : Sl), ρ = [.val (.list (xs.map .int)), .val (.str (tx P)), .val (.str (tx [97, 98, 97, 98, c])), .val (.str (tx o)), s4, s5, s6] ∧ o.length ≤ 3 * k) (rangeD 0 P.length) 0 (fun k d hd ρ => by
    rintro ⟨o, s4, s5, s6, rfl, ho⟩
    obtain ⟨hk, rfl⟩ := range_get hd
    rw [Int.zero_add]
    have hb := fmod_bound (a := (k : Int)) (b := 12) (by decide)
    obtain ⟨y, hy, _⟩ := atI_ints (xs := xs) (i := 2 + (k : Int).fmod 12) (by omega) (by omega)
    have k1 : o.length + 1 ≤ 16777216 := by omega
    have hpk : P[k]? = some P[k] := List.getElem?_eq_getElem hk
    generalize P[k] = p at hpk
    have hpi : atI P (k : Int) = some p := by rw [atI_nat, hpk]
    by_cases c1 : p = 42
    · have hb4 := fmod_bound (a := y.fdiv 7 + (k : Int)) (b := 4) (by decide)
      obtain ⟨m, hm⟩ := Int.eq_ofNat_of_zero_le hb4.1
      have hr4 : rng1 [.int (m : Int)] = some (rangeD 0 m) := rng1_nat m (by omega)
      obtain ⟨o', t6, e', ho'⟩ := fill_in xs P c 0 (y.fdiv 7 + (k : Int)) (.val (.int k)) s6 m (by omega) o (by omega)
      refine ⟨[.val (.list (xs.map .int)), .val (.str (tx P)), .val (.str (tx [97, 98, 97, 98, c])), .val (.str (tx o')), .val (.int k), .val (.int (y.fdiv 7 + (k : Int))), t6], ?_, o', _, _, _, rfl, by omega⟩
      unfold b2_law_filled
      simp [hy, hpi, kP, c1, hm, hr4, e']
    · by_cases c2 : p = 63
      · obtain ⟨z, hz⟩ := sig_at (l := [97, 98, 97, 98, c]) (n := 5) rfl (by decide) (y.fdiv 7 + (k : Int))
        have hz' : atI [97, 98, 97, 98, c] ((y.fdiv 7 + (k : Int)).fmod 5) = some z := hz
        refine ⟨[.val (.list (xs.map .int)), .val (.str (tx P)), .val (.str (tx [97, 98, 97, 98, c])), .val (.str (tx (o ++ [z]))), .val (.int k), .val (.int (y.fdiv 7 + (k : Int))), s6], ?_, o ++ [z], _, _, _, rfl, by rw [List.length_append, List.length_singleton]; omega⟩
        unfold b2_law_filled
        simp [hy, hpi, kP, c2, hz', k1]
      · refine ⟨[.val (.list (xs.map .int)), .val (.str (tx P)), .val (.str (tx [97, 98, 97, 98, c])), .val (.str (tx (o ++ [p]))), .val (.int k), .val (.int (y.fdiv 7 + (k : Int))), s6], ?_, o ++ [p], _, _, _, rfl, by rw [List.length_append, List.length_singleton]; omega⟩
        unfold b2_law_filled
        simp [hy, hpi, kP, c1, c2, k1]) _ ⟨[], .un, .un, .un, rfl, Nat.le_refl _⟩
  rw [rangeD_length] at ho
  refine ⟨o, ?_, by omega⟩
  unfold m_law_filled g_law_filled
  simp [h1, hc, ks, kP, signs_is, hr, e]
theorem spoilt_is (xs : List Int) (T : List Nat) (h : xs.length = 21) (hT : T.length ≤ 120) : ∃ l : List Nat, m_law_spoilt [.list (xs.map .int), .str (tx T)] = .ok (.str (tx l)) ∧ l.length ≤ 125 := by
  obtain ⟨x16, h16, _⟩ := at_int xs 16 (by omega)
  obtain ⟨x17, h17, _⟩ := at_int xs 17 (by omega)
  obtain ⟨x18, h18, _⟩ := at_int xs 18 (by omega)
  have kT : T.length ≤ 16777216 := by omega
  have hb := fmod_bound (a := x16) (b := (T.length : Int) + 1) (by omega)
  obtain ⟨a, ha⟩ := Int.eq_ofNat_of_zero_le hb.1
  have hz : ¬ (T.length : Int) + 1 = 0 := by omega
  obtain ⟨sg, hsg⟩ : ∃ sg : Nat, atI [(PyData.str (tx [97])), .str (tx [98]), .str (tx [99]), .str (tx [42]), .str (tx [63])] (x17.fmod 5) = some (.str (tx [sg])) := by
    have h5 := fmod_bound (a := x17) (b := 5) (by decide)
    obtain ⟨m, hm⟩ := Int.eq_ofNat_of_zero_le h5.1
    rw [hm, atI_nat]
    have : m = 0 ∨ m = 1 ∨ m = 2 ∨ m = 3 ∨ m = 4 := by omega
    rcases this with rfl | rfl | rfl | rfl | rfl <;> exact ⟨_, rfl⟩
  have ct : cutL T none (some (a : Int)) = T.take a := cutL_to T a
  have cf : cutL T (some (a : Int)) none = T.drop a := cutL_from T a
  have cf1 : cutL T (some ((a : Int) + 1)) none = T.drop (a + 1) := cutL_from T (a + 1)
  have k1 : min a T.length ≤ 16777215 := by omega
  have k2 : min a T.length + 1 + (T.length - (a + 1)) ≤ 16777216 := by omega
  have k3 : min a T.length + (T.length - (a + 1)) ≤ 16777216 := by omega
  have k4 : min a T.length + 1 + (T.length - a) ≤ 16777216 := by omega
  have k5 : min a T.length + (T.length - (a + 1) + 1) ≤ 16777216 := by omega
  have k6 : min a T.length + (T.length - a + 1) ≤ 16777216 := by omega
  by_cases c0 : x18.fmod 6 = 0
  · refine ⟨T.take a ++ ([sg] ++ T.drop (a + 1)), ?_, by simp only [List.length_append, List.length_singleton, List.length_take, List.length_drop]; omega⟩
    unfold m_law_spoilt g_law_spoilt
    simp [h16, h17, h18, kT, ha, hsg, hz, c0, ct, cf, cf1, k1, k2, k3, k4, k5, k6]
  by_cases c1 : x18.fmod 6 = 1
  · refine ⟨T.take a ++ T.drop (a + 1), ?_, by simp only [List.length_append, List.length_take, List.length_drop]; omega⟩
    unfold m_law_spoilt g_law_spoilt
    simp [h16, h17, h18, kT, ha, hsg, hz, c1, ct, cf, cf1, k1, k2, k3, k4, k5, k6]
  by_cases c2 : x18.fmod 6 = 2
  · refine ⟨T.take a ++ ([sg] ++ T.drop a), ?_, by simp only [List.length_append, List.length_singleton, List.length_take, List.length_drop]; omega⟩
    unfold m_law_spoilt g_law_spoilt
    simp [h16, h17, h18, kT, ha, hsg, hz, c2, ct, cf, cf1, k1, k2, k3, k4, k5, k6]
  · refine ⟨T, ?_, by omega⟩
    unfold m_law_spoilt g_law_spoilt
    simp [h16, h17, h18, kT, ha, hsg, hz, c0, c1, c2]
/-! the law -/
def nLike : Str := tx [108, 105, 107, 101]
theorem strict_like : m_is_strict [.str nLike] = .ok (.bool true) := by kernel_rfl
@[simp] theorem tx_beq (a b : List Nat) : (tx a == tx b) = decide (a = b) := by rw [beq_dec]; simp
inductive AT (l : List Nat) : PyData → Prop where
  | non : AT l .none
  | flt (c : Int) (h1 : 1 ≤ c) (h2 : c ≤ 4) : AT l (faultD c)
  | str : AT l (.str (tx l))
theorem AT.ar {l : List Nat} {d : PyData} (h : AT l d) : Ar d := by
  cases h with
  | non => exact .non
  | flt c h1 h2 => exact .flt c h1 h2
  | str => exact .str _
theorem argT (l : List Nat) (x : Int) : ∃ e, m_law_arg [.str (tx l), .int x] = .ok e ∧ AT l e := by
  obtain ⟨e, h, q⟩ := arg_is (.str (tx l)) x
  refine ⟨e, h, ?_⟩
  rcases q with rfl | ⟨c, rfl, h1, h2⟩ | rfl
  · exact .non
  · exact .flt c h1 h2
  · exact .str
def P8 (ns : List Int) (ρ : Sls) : Prop := ∃ t1 t2 t3 t4 t5 t6 t7 t8, ρ = [.val (.list (ns.map .int)), t1, t2, t3, t4, t5, t6, t7, t8]
theorem turn8 (ns : List Int) (k : Nat) (s2 s3 s4 s5 s6 s7 s8 : Sl) : ∃ ρ2, b1_law [.val (.list (ns.map .int)), .val (.int k), s2, s3, s4, s5, s6, s7, s8] = .nx ρ2 ∧ P8 ns ρ2 := by
  obtain ⟨c, hc⟩ := cell_is ns k
  obtain ⟨xs, hx, hl, _⟩ := draws_is c 21 (by decide)
  have hx' : m_law_draws [.int c, .int 21] = .ok (.list (xs.map .int)) := hx
  obtain ⟨x15, h15, _⟩ := at_int xs 15 (by omega)
  obtain ⟨x19, h19, _⟩ := at_int xs 19 (by omega)
  obtain ⟨x20, h20, _⟩ := at_int xs 20 (by omega)
  have hb := fmod_bound (a := x15) (b := 13) (by decide)
  have go : ∀ n : Nat, n ≤ 40 → ((x19.fmod 8 = 0 ∧ n = 40) ∨ (¬ x19.fmod 8 = 0 ∧ x15.fmod 13 = n)) → ∃ ρ2, b1_law [.val (.list (ns.map .int)), .val (.int k), s2, s3, s4, s5, s6, s7, s8] = .nx ρ2 ∧ P8 ns ρ2 := fun n hn hcs => by
    obtain ⟨P, hP, lP⟩ := pattern_is xs n hl hn
    obtain ⟨F, hF, lF⟩ := filled_is xs P hl lP
    obtain ⟨T, hT, lT⟩ := spoilt_is xs F hl lF
    obtain ⟨a, ea, ha⟩ := argT T x20
    obtain ⟨b, eb, hb'⟩ := argT P (x20.fdiv 9)
    have har : ∀ d ∈ [a, b], Ar d := fun d hd => by
      rcases List.mem_cons.mp hd with rfl | hd
      · exact ha.ar
      · rw [List.mem_singleton.mp hd]; exact hb'.ar
    have hw := worked_is strict_like har (by simp)
    have ht := told_is har (by simp)
    unfold toldD at ht
    unfold nLike at hw
    have fin : ∃ (u told : PyData) (s : Bool), m_law_strict [.tuple [a, b]] = .ok (.tuple [.bool s, told]) ∧ m_worked [.str (tx [108, 105, 107, 101]), .tuple [a, b]] = .ok u ∧ m_law_is [u, u] = .ok (.bool true) ∧ ((s = true ∧ told = u) ∨ (s = false ∧ m_law_fits [a, b] = .ok u)) := by
      cases hn : [a, b].any noneD with
      | true =>
        rw [hn] at hw ht
        exact ⟨.none, .none, true, ht, hw, is_none, .inl ⟨rfl, rfl⟩⟩
      | false =>
        cases hp : [a, b].any pF with
        | true =>
          rw [hn, hp] at hw ht
          obtain ⟨m, hm⟩ := leastD_fault hp
          rw [hm] at hw ht
          exact ⟨_, _, true, ht, hw, is_fault m, .inl ⟨rfl, rfl⟩⟩
        | false =>
          rw [hn, hp] at hw ht
          simp only [List.any_cons, List.any_nil, Bool.or_false, Bool.or_eq_false_iff] at hn hp
          have ea2 : a = .str (tx T) := by
            cases ha with
            | non => exact absurd hn.1 (by simp [noneD])
            | flt c h1 h2 => rw [pF_fault h1 h2] at hp; exact absurd hp.1 (by simp)
            | str => rfl
          have eb2 : b = .str (tx P) := by
            cases hb' with
            | non => exact absurd hn.2 (by simp [noneD])
            | flt c h1 h2 => rw [pF_fault h1 h2] at hp; exact absurd hp.2 (by simp)
            | str => rfl
          subst ea2 eb2
          obtain ⟨u, hu, qu⟩ := matches_is lP (by omega : T.length ≤ 130)
          obtain ⟨v, hv, qv⟩ := fits_is (by omega : T.length ≤ 900) (by omega : P.length ≤ 900)
          have huv : v = u := by
            rw [Bool.eq_iff_iff, qv, qu]
          subst huv
          refine ⟨.bool v, .none, false, ht, ?_, is_bool v, .inr ⟨rfl, hv⟩⟩
          rw [if_neg (by decide), if_neg (by decide)] at hw
          rw [hw]
          unfold m_strict g_strict
          simp [bTup, bCons, bNil, inK, gAct, acts_TWO, List.lookup, sE_is, hu]
    obtain ⟨u, told, s, f1, f2, f3, f4⟩ := fin
    rcases hcs with ⟨c0, rfl⟩ | ⟨c0, c1⟩
    · simp at hP
      rcases f4 with ⟨rfl, rfl⟩ | ⟨rfl, f4⟩
      · refine ⟨_, by unfold b1_law; simp [hc, hx', h15, h19, h20, c0, hP, hF, hT, ea, eb, f1, f2, f3]; rfl, ?_⟩
        exact ⟨_, _, _, _, _, _, _, _, rfl⟩
      · refine ⟨_, by unfold b1_law; simp [hc, hx', h15, h19, h20, c0, hP, hF, hT, ea, eb, f1, f2, f3, f4]; rfl, ?_⟩
        exact ⟨_, _, _, _, _, _, _, _, rfl⟩
    · rcases f4 with ⟨rfl, rfl⟩ | ⟨rfl, f4⟩
      · refine ⟨_, by unfold b1_law; simp [hc, hx', h15, h19, h20, c0, c1, hP, hF, hT, ea, eb, f1, f2, f3]; rfl, ?_⟩
        exact ⟨_, _, _, _, _, _, _, _, rfl⟩
      · refine ⟨_, by unfold b1_law; simp [hc, hx', h15, h19, h20, c0, c1, hP, hF, hT, ea, eb, f1, f2, f3, f4]; rfl, ?_⟩
        exact ⟨_, _, _, _, _, _, _, _, rfl⟩
  by_cases c0 : x19.fmod 8 = 0
  · exact go 40 (Nat.le_refl _) (.inl ⟨c0, rfl⟩)
  · exact go (x15.fmod 13).toNat (by omega) (.inr ⟨c0, by omega⟩)
theorem law_true : ∀ ns : List Int, ns.length ≤ 63 → m_law [.list (ns.map .int)] = .ok (.bool true) := fun ns hn => by
  obtain ⟨n, hn2, hn3⟩ : ∃ n : Nat, (if (1 : Int) < (if (ns.length : Int) < 24 then (ns.length : Int) else 24) then (if (ns.length : Int) < 24 then (ns.length : Int) else 24) else 1) = (n : Int) ∧ n ≤ 63 := ⟨max 1 (min 24 ns.length), by split <;> split at * <;> omega, by omega⟩
  have hr : rng1 [.int (n : Int)] = some (rangeD 0 n) := rng1_nat n (Nat.lt_of_le_of_lt hn3 (by decide))
  obtain ⟨ρ', e, _⟩ := forL_inv (i := 1) (g := b1_law) (P := P8 ns) (rangeD 0 n) (fun d hd ρ => by
    rintro ⟨t1, t2, t3, t4, t5, t6, t7, t8, rfl⟩
    obtain ⟨j, _, rfl⟩ := rangeD_mem0 hd
    exact turn8 ns j t2 t3 t4 t5 t6 t7 t8) _ ⟨.un, .un, .un, .un, .un, .un, .un, .un, rfl⟩
  unfold m_law g_law
  simp [hn2, hr, e]
end DL.Pure

open PySem PySem.Spec PyProof.Rows L2 DL
theorem PySem.Challenge.cw_peristyle_k08_like_holds : PySem.Challenge.rw_peristyle_k08_like.Holds := by
  w_on; o_law; k_head; (case hw => w_witness2)
  k_fill
  refine L2.walk_of (l := PySem.Challenge.rw_peristyle_k08_like) (n := 63) (k := 7) (x := "script") (CX := fun w => L2.CX PySem.Challenge.rw_peristyle_k08_like.prog w) (sp := fun w => DL.spL _) rfl (by decide) rfl ⟨rfl, by decide, by decide⟩ (fun w h Y => PySem.W.kIn_of Y) ?F (fun _ _ a ns hl _ hS => ⟨a, ns, rfl, hS, hl, fun _ => rfl⟩) (fun w H s e s' z => DL.cx_false z)
  case F =>
    intro w mg fa h KX G hmg
    refine' Wk.all_mk KX G hmg Pure.law_true ?a0 ?l0 ?c0 ?k0 ?a1 ?l1 ?c1 ?k1 ?a2 ?l2 ?c2 ?k2 ?a3 ?l3 ?c3 ?k3 ?a4 ?l4 ?c4 ?k4 ?a5 ?l5 ?c5 ?k5 ?a6 ?l6 ?c6 ?k6 ?a7 ?l7 ?c7 ?k7 ?a8 ?l8 ?c8 ?k8 ?a9 ?l9 ?c9 ?k9 ?a10 ?l10 ?c10 ?k10 ?a11 ?l11 ?c11 ?k11 ?a12 ?l12 ?c12 ?k12 ?a13 ?l13 ?c13 ?k13 ?a14 ?l14 ?c14 ?k14 ?a15 ?l15 ?c15 ?k15 ?a16 ?l16 ?c16 ?k16 ?a17 ?l17 ?c17 ?k17 ?a18 ?l18 ?c18 ?k18 ?a19 ?l19 ?c19 ?k19 ?a20 ?l20 ?c20 ?k20 ?a21 ?l21 ?c21 ?k21 ?a22 ?l22 ?c22 ?k22 ?a23 ?l23 ?c23 ?k23 ?a24 ?l24 ?c24 ?k24 ?a25 ?l25 ?c25 ?k25 ?a26 ?l26 ?c26 ?k26 ?a27 ?l27 ?c27 ?k27 ?a28 ?l28 ?c28 ?k28 ?a29 ?l29 ?c29 ?k29 ?a30 ?l30 ?c30 ?k30 ?a31 ?l31 ?c31 ?k31 ?a32 ?l32 ?c32 ?k32 ?a33 ?l33 ?c33 ?k33 ?a34 ?l34 ?c34 ?k34 ?a35 ?l35 ?c35 ?k35 ?a36 ?l36 ?c36 ?k36 ?a37 ?l37 ?c37 ?k37 ?z0 ?z1 ?z2 ?z3 ?z4 ?z5 ?z6 ?z7 ?z8 ?z9 ?y0 ?y1 ?y2 ?x2 ?y3 ?x3 ?y4 ?y5 ?w5 ?v5 ?y6 ?y7 ?x7 ?y8 ?y9 ?w9 ?v9
    (case a0 => k_is); (case l0 => k_is); (case c0 => k_is); (case k0 => k_is); (case a1 => k_is); (case l1 => k_is); (case c1 => k_is); (case k1 => k_is)
    (case a2 => k_is); (case l2 => k_is); (case c2 => k_is); (case k2 => k_is); (case a3 => k_is); (case l3 => k_is); (case c3 => k_is); (case k3 => k_is)
    (case a4 => k_is); (case l4 => k_is); (case c4 => k_is); (case k4 => k_is); (case a5 => k_is); (case l5 => k_is); (case c5 => k_is); (case k5 => k_is)
    (case a6 => k_is); (case l6 => k_is); (case c6 => k_is); (case k6 => k_is); (case a7 => k_is); (case l7 => k_is); (case c7 => k_is); (case k7 => k_is)
    (case a8 => k_is); (case l8 => k_is); (case c8 => k_is); (case k8 => k_is); (case a9 => k_is); (case l9 => k_is); (case c9 => k_is); (case k9 => k_is)
    (case a10 => k_is); (case l10 => k_is); (case c10 => k_is); (case k10 => k_is); (case a11 => k_is); (case l11 => k_is); (case c11 => k_is); (case k11 => k_is)
    (case a12 => k_is); (case l12 => k_is); (case c12 => k_is); (case k12 => k_is); (case a13 => k_is); (case l13 => k_is); (case c13 => k_is); (case k13 => k_is)
    (case a14 => k_is); (case l14 => k_is); (case c14 => k_is); (case k14 => k_is); (case a15 => k_is); (case l15 => k_is); (case c15 => k_is); (case k15 => k_is)
    (case a16 => k_is); (case l16 => k_is); (case c16 => k_is); (case k16 => k_is); (case a17 => k_is); (case l17 => k_is); (case c17 => k_is); (case k17 => k_is)
    (case a18 => k_is); (case l18 => k_is); (case c18 => k_is); (case k18 => k_is); (case a19 => k_is); (case l19 => k_is); (case c19 => k_is); (case k19 => k_is)
    (case a20 => k_is); (case l20 => k_is); (case c20 => k_is); (case k20 => k_is); (case a21 => k_is); (case l21 => k_is); (case c21 => k_is); (case k21 => k_is)
    (case a22 => k_is); (case l22 => k_is); (case c22 => k_is); (case k22 => k_is); (case a23 => k_is); (case l23 => k_is); (case c23 => k_is); (case k23 => k_is)
    (case a24 => k_is); (case l24 => k_is); (case c24 => k_is); (case k24 => k_is); (case a25 => k_is); (case l25 => k_is); (case c25 => k_is); (case k25 => k_is)
    (case a26 => k_is); (case l26 => k_is); (case c26 => k_is); (case k26 => k_is); (case a27 => k_is); (case l27 => k_is); (case c27 => k_is); (case k27 => k_is)
    (case a28 => k_is); (case l28 => k_is); (case c28 => k_is); (case k28 => k_is); (case a29 => k_is); (case l29 => k_is); (case c29 => k_is); (case k29 => k_is)
    (case a30 => k_is); (case l30 => k_is); (case c30 => k_is); (case k30 => k_is); (case a31 => k_is); (case l31 => k_is); (case c31 => k_is); (case k31 => k_is)
    (case a32 => k_is); (case l32 => k_is); (case c32 => k_is); (case k32 => k_is); (case a33 => k_is); (case l33 => k_is); (case c33 => k_is); (case k33 => k_is)
    (case a34 => k_is); (case l34 => k_is); (case c34 => k_is); (case k34 => k_is); (case a35 => k_is); (case l35 => k_is); (case c35 => k_is); (case k35 => k_is)
    (case a36 => k_is); (case l36 => k_is); (case c36 => k_is); (case k36 => k_is); (case a37 => k_is); (case l37 => k_is); (case c37 => k_is); (case k37 => k_is)
    (case z0 => k_is); (case z1 => k_is); (case z2 => k_is); (case z3 => k_is); (case z4 => k_is); (case z5 => k_is); (case z6 => k_is); (case z7 => k_is)
    (case z8 => k_is); (case z9 => k_is); (case y0 => k_is); (case y1 => k_is); (case y2 => k_is); (case x2 => kernel_rfl); (case y3 => k_is); (case x3 => kernel_rfl)
    (case y4 => k_is); (case y5 => k_is); (case w5 => kernel_rfl); (case v5 => kernel_rfl); (case y6 => k_is); (case y7 => k_is); (case x7 => kernel_rfl); (case y8 => k_is)
    (case y9 => k_is); (case w9 => kernel_rfl); (case v9 => kernel_rfl)

