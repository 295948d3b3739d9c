import PyProof.Rows.All
import Wide.All
import OpenK.AllK
import Wide.FinOn
import HandS.ForMost
import HandS.ForExc
import HandS.IsInst
import HandS.CallSlots
import HandS.TryMany
import HandS.TupAny
import HandS.Flow
import HandS.Wide
import HandS.StrMore
import HandS.WordsExc
import KE.LtData
import HandS.CallLocal
import HandS.HeadHook3
import HandS.Zip
import HandS.Deep
import KE.GoesEnum
import KE.DataMinMax
import KE.SortData
import KE.SortKeyHeap
import OpenK.KCall
import HandS.SortKw
import HandS.ReplaceLit
import HandS.ReplaceList
import PyProof.Rows.StrDouble
import PyProof.StrLawsReplace
import HandS.Exc
import HandS.ExcOwn
import HandS.ExcInit
import HandS.ExcField
import HandS.ExcIs
import HandS.Small
import KE.KExcIs
import PySem.Challenge.RW_peristyle_k25_mistakes_of_words
set_option Elab.async false
set_option linter.all false
set_option maxRecDepth 100000
set_option autoImplicit false
set_option maxHeartbeats 4000000
/-! DL1: a layer of plain data over the hand layer: what a value stands for (Den), the slots of a frame as data (SR), readings by plain functions. -/
namespace DL
open PySem PySem.Spec PyProof.Rows L2

/-! ### what a value stands for -/
def kD : Key → PyData
  | .inl i => .int i
  | .inr x => .str x
mutual
inductive Den (K : PySem.W.Frag) (F : Hp) : V → PyData → Prop where
  | non : Den K F .non .none
  | bl (b : Bool) : Den K F (.bl b) (.bool b)
  | int (i : Int) : Den K F (.int i) (.int i)
  | str (x : Str) : Den K F (.str x) (.str x)
  | lst {a : Addr} {xs : List V} {ds : List PyData} : SqL K F a xs → Dens K F xs ds → Den K F (.ref a) (.list ds)
  | tup {a : Addr} {xs : List V} {ds : List PyData} : SqT K F a xs → Dens K F xs ds → Den K F (.ref a) (.tuple ds)
  | dic {a : Addr} {kvs : List (Key × V)} {ps : List (PyData × PyData)} : F a = some (.dK kvs) → DenKV K F kvs ps → Den K F (.ref a) (.dict ps)
inductive Dens (K : PySem.W.Frag) (F : Hp) : List V → List PyData → Prop where
  | nil : Dens K F [] []
  | cons {v : V} {vs : List V} {d : PyData} {ds : List PyData} : Den K F v d → Dens K F vs ds → Dens K F (v :: vs) (d :: ds)
inductive DenKV (K : PySem.W.Frag) (F : Hp) : List (Key × V) → List (PyData × PyData) → Prop where
  | nil : DenKV K F [] []
  | cons {k : Key} {v : V} {kvs : List (Key × V)} {d : PyData} {ps : List (PyData × PyData)} : Den K F v d → DenKV K F kvs ps → DenKV K F ((k, v) :: kvs) ((kD k, d) :: ps)
end

def Ex (H H' : Hp) : Prop := ∀ a o, H a = some o → H' a = some o
theorem Ex.refl (H : Hp) : Ex H H := fun _ _ h => h
theorem Ex.trans {H H1 H2 : Hp} (a : Ex H H1) (b : Ex H1 H2) : Ex H H2 := fun x o h => b x o (a x o h)
theorem Ex.new {H : Hp} {p : Addr} {o : HO} (h : H p = none) : Ex H (upd H p o) := fun a u e => by
  rw [upd_ne (ne_of_none e h)]
  exact e
theorem Ex.rd {H H' : Hp} {a : Addr} {u : HO} (e : Ex H H') (h : Rd H a u) : Rd H' a u := by
  rcases h with h | ⟨o, h⟩
  · exact .inl (e a _ h)
  · exact .inr ⟨o, e a _ h⟩
theorem Ex.sl {K : PySem.W.Frag} {H H' : Hp} {a : Addr} {xs : List V} (e : Ex H H') (h : SqL K H a xs) : SqL K H' a xs := by
  rcases h with h | h
  · exact .inl (e.rd h)
  · exact .inr h
theorem Ex.st {K : PySem.W.Frag} {H H' : Hp} {a : Addr} {xs : List V} (e : Ex H H') (h : SqT K H a xs) : SqT K H' a xs := by
  rcases h with h | h
  · exact .inl (e.rd h)
  · exact .inr h

section
variable {K : PySem.W.Frag} {F F' : Hp}
mutual
theorem Den.mono (e : Ex F F') : ∀ {v : V} {d : PyData}, Den K F v d → Den K F' v d
  | _, _, .non => .non
  | _, _, .bl b => .bl b
  | _, _, .int i => .int i
  | _, _, .str x => .str x
  | _, _, .lst h q => .lst (e.sl h) (Dens.mono e q)
  | _, _, .tup h q => .tup (e.st h) (Dens.mono e q)
  | _, _, .dic h q => .dic (e _ _ h) (DenKV.mono e q)
theorem Dens.mono (e : Ex F F') : ∀ {vs : List V} {ds : List PyData}, Dens K F vs ds → Dens K F' vs ds
  | _, _, .nil => .nil
  | _, _, .cons h q => .cons (Den.mono e h) (Dens.mono e q)
theorem DenKV.mono (e : Ex F F') : ∀ {vs : List (Key × V)} {ds : List (PyData × PyData)}, DenKV K F vs ds → DenKV K F' vs ds
  | _, _, .nil => .nil
  | _, _, .cons h q => .cons (Den.mono e h) (DenKV.mono e q)
end
theorem Dens.length : ∀ {vs : List V} {ds : List PyData}, Dens K F vs ds → vs.length = ds.length
  | _, _, .nil => rfl
  | _, _, .cons _ q => congrArg (· + 1) (Dens.length q)
theorem Dens.append : ∀ {vs : List V} {ds : List PyData} {ws : List V} {es : List PyData}, Dens K F vs ds → Dens K F ws es → Dens K F (vs ++ ws) (ds ++ es)
  | _, _, _, _, .nil, h => h
  | _, _, _, _, .cons d q, h => .cons d (Dens.append q h)
theorem Dens.get : ∀ {vs : List V} {ds : List PyData} {i : Nat} {d : PyData}, Dens K F vs ds → ds[i]? = some d → ∃ v, vs[i]? = some v ∧ Den K F v d
  | _, _, _, _, .nil, e => by simp at e
  | _, _, 0, _, .cons h _, e => by simp at e; subst e; exact ⟨_, rfl, h⟩
  | _, _, i + 1, _, .cons _ q, e => by
    obtain ⟨v, h1, h2⟩ := Dens.get (i := i) q (by simpa using e)
    exact ⟨v, by simpa using h1, h2⟩
theorem Dens.getV : ∀ {vs : List V} {ds : List PyData} {i : Nat} {v : V}, Dens K F vs ds → vs[i]? = some v → ∃ d, ds[i]? = some d ∧ Den K F v d
  | _, _, _, _, .nil, e => by simp at e
  | _, _, 0, _, .cons h _, e => by simp at e; subst e; exact ⟨_, rfl, h⟩
  | _, _, i + 1, _, .cons _ q, e => by
    obtain ⟨v, h1, h2⟩ := Dens.getV (i := i) q (by simpa using e)
    exact ⟨v, by simpa using h1, h2⟩
theorem Dens.take : ∀ {vs : List V} {ds : List PyData} (n : Nat), Dens K F vs ds → Dens K F (vs.take n) (ds.take n)
  | _, _, 0, _ => .nil
  | _, _, _ + 1, .nil => .nil
  | _, _, n + 1, .cons r t => .cons r (Dens.take n t)
theorem Dens.drop : ∀ {vs : List V} {ds : List PyData} (n : Nat), Dens K F vs ds → Dens K F (vs.drop n) (ds.drop n)
  | _, _, 0, r => r
  | _, _, _ + 1, .nil => .nil
  | _, _, n + 1, .cons _ t => Dens.drop n t
theorem Dens.nil_iff {vs : List V} {ds : List PyData} (r : Dens K F vs ds) : vs = [] ↔ ds = [] := by
  cases r with
  | nil => simp
  | cons _ _ => simp
theorem Dens.ints : ∀ {vs : List V} {ns : List Int}, Dens K F vs (ns.map PyData.int) → vs = ns.map V.int
  | _, [], h => by cases h; rfl
  | _, n :: ns, h => by
    rw [List.map_cons] at h
    cases h with
    | cons a b => cases a; rw [Dens.ints b]; rfl
theorem Dens.of_ints : ∀ (ns : List Int), Dens K F (ns.map V.int) (ns.map PyData.int)
  | [] => .nil
  | n :: ns => .cons (.int n) (Dens.of_ints ns)
theorem Dens.strs : ∀ {vs : List V} {ns : List Str}, Dens K F vs (ns.map PyData.str) → vs = ns.map V.str
  | _, [], h => by cases h; rfl
  | _, n :: ns, h => by
    rw [List.map_cons] at h
    cases h with
    | cons a b => cases a; rw [Dens.strs b]; rfl
theorem Dens.of_strs : ∀ (ns : List Str), Dens K F (ns.map V.str) (ns.map PyData.str)
  | [] => .nil
  | n :: ns => .cons (.str n) (Dens.of_strs ns)
theorem Dens.bools : ∀ {vs : List V} {ns : List Bool}, Dens K F vs (ns.map PyData.bool) → vs = ns.map V.bl
  | _, [], h => by cases h; rfl
  | _, n :: ns, h => by
    rw [List.map_cons] at h
    cases h with
    | cons a b => cases a; rw [Dens.bools b]; rfl

/-! flat data: no heap -/
def flatD : PyData → Bool
  | .none | .bool _ | .int _ | .str _ => true
  | _ => false
def flatOf : PyData → V
  | .bool b => .bl b
  | .int i => .int i
  | .str x => .str x
  | _ => .non
theorem Den.flat {v : V} {d : PyData} (h : Den K F v d) (f : flatD d = true) : v = flatOf d := by
  cases h <;> first | rfl | cases f
theorem Den.of_flat {d : PyData} (f : flatD d = true) : Den K F (flatOf d) d := by
  cases d <;> first | exact .non | exact .bl _ | exact .int _ | exact .str _ | cases f
theorem Den.toFlat {v : V} {d : PyData} (h : Den K F v d) (f : flatD d = true) (F2 : Hp) : Den K F2 v d := by
  rw [h.flat f]; exact .of_flat f
theorem Den.flatV {v : V} {d : PyData} (h : Den K F v d) (f : flatD d = true) : L2.flatV v = true := by
  cases h <;> first | rfl | cases f
theorem Dens.flatV : ∀ {vs : List V} {ds : List PyData}, Dens K F vs ds → ds.all flatD = true → vs.all L2.flatV = true
  | _, _, .nil, _ => rfl
  | _, _, .cons h q, f => by
    rw [List.all_cons, Bool.and_eq_true] at f
    rw [List.all_cons, h.flatV f.1, Dens.flatV q f.2]; rfl

/-! to the hand layer's own data (no dicts) -/
mutual
def noDic : PyData → Bool
  | .none => true
  | .bool _ => true
  | .int _ => true
  | .str _ => true
  | .list xs => noDics xs
  | .tuple xs => noDics xs
  | .dict _ => false
def noDics : List PyData → Bool
  | [] => true
  | x :: xs => noDic x && noDics xs
end
mutual
theorem Den.dp : ∀ {v : V} {d : PyData}, Den K F v d → noDic d = true → Dp K F v d
  | _, _, .non, _ => .non
  | _, _, .bl b, _ => .bl b
  | _, _, .int i, _ => .int i
  | _, _, .str x, _ => .str x
  | _, _, .lst h q, f => .lst h (Dens.dp q (by simpa [noDic] using f))
  | _, _, .tup h q, f => .tup h (Dens.dp q (by simpa [noDic] using f))
  | _, _, .dic h q, f => by simp [noDic] at f
theorem Dens.dp : ∀ {vs : List V} {ds : List PyData}, Dens K F vs ds → noDics ds = true → DpAll K F vs ds
  | _, _, .nil, _ => .nil
  | _, _, .cons h q, f => by
    rw [noDics, Bool.and_eq_true] at f
    exact .cons (Den.dp h f.1) (Dens.dp q f.2)
end

/-! types, for isinstance -/
def tyOf : PyData → String
  | .none => "NoneType"
  | .bool _ => "bool"
  | .int _ => "int"
  | .str _ => "str"
  | .list _ => "list"
  | .tuple _ => "tuple"
  | .dict _ => "dict"
theorem Den.tyx {H : Hp} (e : Ex F H) {v : V} {d : PyData} (h : Den K F v d) : TyX K H v (.type (tyOf d)) := by
  cases h with
  | non => exact .base .non
  | bl b => exact .base (.bl b)
  | int i => exact .base (.int i)
  | str x => exact .base (.str x)
  | lst h _ =>
    rcases h with (h | ⟨o, h⟩) | ⟨o, its, n, hk, hc, _⟩
    · exact .base (.lst (e _ _ h))
    · exact .base (.frz (e _ _ h))
    · exact .kList hk hc
  | tup h _ =>
    rcases h with (h | ⟨o, h⟩) | ⟨o, its, n, hk, hc, _⟩
    · exact .base (.tup (e _ _ h))
    · exact .fTuple (e _ _ h)
    · exact .kTuple hk hc
  | dic h _ => exact .base (.dK (e _ _ h))
end

/-! ### outcomes -/
/-- so that simp writes its steps down -/
theorem nd {α : Sort _} {a b : α} (h : a = b) : a = b := h
structure Xn where
  nm : Str
  fs : List (Str × V)
inductive Res (α : Type) where
  | ok (a : α)
  | exc (x : Xn)
  | bad
def Res.bind {α β : Type} : Res α → (α → Res β) → Res β
  | .ok a, f => f a
  | .exc x, _ => .exc x
  | .bad, _ => .bad
instance : Monad Res where
  pure := .ok
  bind := Res.bind
@[simp] theorem bind_ok {α β : Type} (a : α) (f : α → Res β) : (Res.ok a >>= f) = f a := nd rfl
@[simp] theorem bind_exc {α β : Type} (x : Xn) (f : α → Res β) : (Res.exc x >>= f) = .exc x := nd rfl
@[simp] theorem bind_bad {α β : Type} (f : α → Res β) : (Res.bad >>= f) = .bad := nd rfl
@[simp] theorem pure_ok {α : Type} (a : α) : (pure a : Res α) = .ok a := nd rfl
theorem bind_assoc {α β γ : Type} (x : Res α) (f : α → Res β) (g : β → Res γ) : (x >>= f) >>= g = x >>= fun a => f a >>= g := by cases x <;> rfl
def noX {α : Type} : Res α → Res α
  | .ok a => .ok a
  | _ => .bad
@[simp] theorem noX_ok {α : Type} (a : α) : noX (Res.ok a) = .ok a := nd rfl

/-! ### slots -/
inductive Sl where
  | un
  | val (d : PyData)
  | own (ds : List PyData)
  | adr (a : Addr)
abbrev Sls := List Sl
def SlOk (K : PySem.W.Frag) (H F : Hp) (o : Option (Option V)) : Sl → Prop
  | .un => True
  | .val d => ∃ v, o = some (some v) ∧ Den K F v d
  | .own ds => ∃ a xs, o = some (some (.ref a)) ∧ H a = some (.lst xs) ∧ F a = none ∧ Dens K F xs ds
  | .adr a => o = some (some (.ref a))
def OwnAt (ρ : Sls) (σ : L2.St) (i : Nat) (a : Addr) : Prop := (∃ ds, ρ[i]? = some (.own ds)) ∧ σ[i]? = some (some (.ref a))

structure Gr (F H F' H' : Hp) : Prop where
  ff : Ex F F'
  hh : Ex H H'
  fh : Ex F' H'
  nf : ∀ a, F a = none → H a ≠ none → F' a = none
  nz : ∀ a o u, H a = none → F' a ≠ some (.frz o u)
theorem not_of_none {H H' : Hp} (e : Ex H H') {a : Addr} (h : H' a = none) : H a = none := by
  cases q : H a with
  | none => rfl
  | some o => rw [e a o q] at h; cases h
theorem Gr.refl {F H : Hp} (e : Ex F H) : Gr F H F H := ⟨.refl _, .refl _, e, fun _ h _ => h, fun a o u h z => by rw [not_of_none e h] at z; cases z⟩
theorem Gr.trans {F H F1 H1 F2 H2 : Hp} (a : Gr F H F1 H1) (b : Gr F1 H1 F2 H2) : Gr F H F2 H2 :=
  ⟨a.ff.trans b.ff, a.hh.trans b.hh, b.fh, fun x h n => b.nf x (a.nf x h n) fun z => n (not_of_none a.hh z), fun x o u h z => by
    cases q : F1 x with
    | some v =>
      have e := b.ff x v q
      rw [z] at e
      cases e
      exact a.nz x o u h q
    | none =>
      by_cases n : H1 x = none
      · exact b.nz x o u n z
      · rw [b.nf x q n] at z; cases z⟩
/-- a new object, frozen at once -/
theorem Gr.new {F H : Hp} {p : Addr} {o : HO} (e : Ex F H) (h : H p = none) (hz : ∀ ob u, o ≠ .frz ob u := by intro _ _ z; cases z) : Gr F H (upd F p o) (upd H p o) := by
  have hF : F p = none := not_of_none e h
  refine ⟨Ex.new hF, Ex.new h, fun a u q => ?_, fun a h1 h2 => ?_, fun a ob u h1 h2 => ?_⟩
  · by_cases ha : a = p
    · subst ha; rw [upd_same] at q ⊢; exact q
    · rw [upd_ne ha] at q ⊢; exact e a u q
  · have ha : a ≠ p := fun z => h2 (z ▸ h)
    rw [upd_ne ha]; exact h1
  · by_cases ha : a = p
    · subst ha; rw [upd_same] at h2; exact hz _ _ (Option.some.inj h2)
    · rw [upd_ne ha, not_of_none e h1] at h2; cases h2
/-- a new object, kept apart -/
theorem Gr.newO {F H : Hp} {p : Addr} {o : HO} (e : Ex F H) (h : H p = none) : Gr F H F (upd H p o) := by
  refine ⟨.refl _, Ex.new h, fun a u q => ?_, fun a h1 h2 => h1, fun a ob u h1 h2 => by rw [not_of_none e h1] at h2; cases h2⟩
  have ha : a ≠ p := fun z => by subst z; rw [not_of_none e h] at q; cases q
  rw [upd_ne ha]; exact e a u q

structure SR (K : PySem.W.Frag) (F0 H0 : Hp) (ρ : Sls) (σ : L2.St) (H F : Hp) : Prop where
  gr : Gr F0 H0 F H
  len : ρ.length = σ.length
  sl : ∀ (i : Nat) (s : Sl), ρ[i]? = some s → SlOk K H F σ[i]? s
  own0 : ∀ (i : Nat) (a : Addr), OwnAt ρ σ i a → H0 a = none
  sep : ∀ (i j : Nat) (a : Addr), OwnAt ρ σ i a → OwnAt ρ σ j a → i = j
theorem SlOk.grow {K : PySem.W.Frag} {H F H' F' : Hp} {o : Option (Option V)} {s : Sl} (h : SlOk K H F o s) (g : Gr F H F' H') : SlOk K H' F' o s := by
  cases s with
  | un => exact True.intro
  | val d => obtain ⟨v, e, q⟩ := h; exact ⟨v, e, q.mono g.ff⟩
  | adr a => exact h
  | own ds => obtain ⟨a, xs, e, h1, h2, q⟩ := h; exact ⟨a, xs, e, g.hh _ _ h1, g.nf a h2 (by rw [h1]; simp), q.mono g.ff⟩
section
variable {K : PySem.W.Frag} {F0 H0 : Hp} {ρ : Sls} {σ : L2.St} {H F H' F' : Hp}
theorem SR.grow (r : SR K F0 H0 ρ σ H F) (g : Gr F H F' H') : SR K F0 H0 ρ σ H' F' :=
  ⟨r.gr.trans g, r.len, fun i s e => (r.sl i s e).grow g, r.own0, r.sep⟩
theorem SR.ex (r : SR K F0 H0 ρ σ H F) : Ex F H := r.gr.fh
/-- a slot takes a datum -/
theorem SR.set (r : SR K F0 H0 ρ σ H F) {v : V} {d : PyData} (h : Den K F v d) (i : Nat) : SR K F0 H0 (ρ.set i (.val d)) (σ.set i (some v)) H F := by
  have ow : ∀ j a, OwnAt (ρ.set i (.val d)) (σ.set i (some v)) j a → j ≠ i ∧ OwnAt ρ σ j a := fun j a ⟨⟨ds, e1⟩, e2⟩ => by
    by_cases hj : j = i
    · subst hj
      by_cases hl : j < ρ.length
      · rw [List.getElem?_set_self hl] at e1; cases e1
      · rw [List.getElem?_eq_none (by simpa using hl)] at e1; cases e1
    · rw [List.getElem?_set_ne (Ne.symm hj)] at e1 e2
      exact ⟨hj, ⟨ds, e1⟩, e2⟩
  refine ⟨r.gr, by simp [r.len], fun j s e => ?_, fun j a o => r.own0 j a (ow j a o).2, fun j k a o1 o2 => r.sep j k a (ow j a o1).2 (ow k a o2).2⟩
  by_cases hj : j = i
  · subst hj
    by_cases hl : j < ρ.length
    · rw [List.getElem?_set_self hl] at e; cases e
      rw [List.getElem?_set_self (by rw [← r.len]; exact hl)]
      exact ⟨v, rfl, h⟩
    · rw [List.getElem?_eq_none (by simpa using hl)] at e; cases e
  · rw [List.getElem?_set_ne (Ne.symm hj)] at e ⊢
    exact r.sl j s e
/-- a slot takes a new list -/
theorem SR.setO (r : SR K F0 H0 ρ σ H F) {a : Addr} {xs : List V} {ds : List PyData} (h1 : H a = some (.lst xs)) (h2 : F a = none) (h3 : H0 a = none) (h4 : ∀ j, ¬ OwnAt ρ σ j a) (h : Dens K F xs ds) (i : Nat) : SR K F0 H0 (ρ.set i (.own ds)) (σ.set i (some (.ref a))) H F := by
  have ow : ∀ j b, OwnAt (ρ.set i (.own ds)) (σ.set i (some (.ref a))) j b → (j = i ∧ b = a) ∨ OwnAt ρ σ j b := fun j b ⟨⟨ds', e1⟩, e2⟩ => by
    by_cases hj : j = i
    · subst hj
      by_cases hl : j < ρ.length
      · rw [List.getElem?_set_self (by rw [← r.len]; exact hl)] at e2
        have e3 : V.ref a = V.ref b := Option.some.inj (Option.some.inj e2)
        cases e3
        exact .inl ⟨rfl, rfl⟩
      · rw [List.getElem?_eq_none (by simpa using hl)] at e1; cases e1
    · rw [List.getElem?_set_ne (Ne.symm hj)] at e1 e2
      exact .inr ⟨⟨ds', e1⟩, e2⟩
  refine ⟨r.gr, by simp [r.len], fun j s e => ?_, fun j b o => ?_, fun j k b o1 o2 => ?_⟩
  · by_cases hj : j = i
    · subst hj
      by_cases hl : j < ρ.length
      · rw [List.getElem?_set_self hl] at e; cases e
        rw [List.getElem?_set_self (by rw [← r.len]; exact hl)]
        exact ⟨a, xs, rfl, h1, h2, h⟩
      · rw [List.getElem?_eq_none (by simpa using hl)] at e; cases e
    · rw [List.getElem?_set_ne (Ne.symm hj)] at e ⊢
      exact r.sl j s e
  · rcases ow j b o with ⟨_, rfl⟩ | o
    · exact h3
    · exact r.own0 j b o
  · rcases ow j b o1 with ⟨rfl, rfl⟩ | p1
    · rcases ow k b o2 with ⟨rfl, _⟩ | p2
      · rfl
      · exact absurd p2 (h4 k)
    · rcases ow k b o2 with ⟨rfl, rfl⟩ | p2
      · exact absurd p1 (h4 j)
      · exact r.sep j k b p1 p2
theorem SR.ownNe (r : SR K F0 H0 ρ σ H F) {j : Nat} {a : Addr} (o : OwnAt ρ σ j a) : H a ≠ none := by
  obtain ⟨⟨ds, e1⟩, e2⟩ := o
  obtain ⟨b, xs, e3, h1, _⟩ := r.sl j _ e1
  rw [e2] at e3
  have e4 : V.ref a = V.ref b := Option.some.inj (Option.some.inj e3)
  cases e4
  rw [h1]; simp
/-- an own list becomes data -/
theorem SR.freeze (r : SR K F0 H0 ρ σ H F) {i : Nat} {ds : List PyData} (e : ρ[i]? = some (.own ds)) :
    ∃ a xs F', σ[i]? = some (some (.ref a)) ∧ H a = some (.lst xs) ∧ F a = none ∧ F' = upd F a (.lst xs) ∧ Den K F' (.ref a) (.list ds) ∧ Ex F F' ∧ SR K F0 H0 (ρ.set i (.val (.list ds))) σ H F' := by
  obtain ⟨a, xs, e2, h1, h2, h3⟩ := r.sl i _ e
  have hx : Ex F (upd F a (.lst xs)) := Ex.new h2
  have den : Den K (upd F a (.lst xs)) (.ref a) (.list ds) := .lst (.inl (.inl upd_same)) (h3.mono hx)
  have oa : OwnAt ρ σ i a := ⟨⟨ds, e⟩, e2⟩
  have hl : i < ρ.length := (List.getElem?_eq_some_iff.mp e).1
  have ow : ∀ j b, OwnAt (ρ.set i (.val (.list ds))) σ j b → j ≠ i ∧ OwnAt ρ σ j b := fun j b ⟨⟨ds', e1⟩, e2⟩ => by
    by_cases hj : j = i
    · subst hj
      rw [List.getElem?_set_self hl] at e1; cases e1
    · rw [List.getElem?_set_ne (Ne.symm hj)] at e1
      exact ⟨hj, ⟨ds', e1⟩, e2⟩
  refine ⟨a, xs, _, e2, h1, h2, rfl, den, hx, ⟨r.gr.ff.trans hx, r.gr.hh, fun b u q => ?_, fun b q1 q2 => ?_, fun b ob u q1 q2 => ?_⟩, by simp [r.len], fun j s e' => ?_, fun j b o => r.own0 j b (ow j b o).2, fun j k b o1 o2 => r.sep j k b (ow j b o1).2 (ow k b o2).2⟩
  · by_cases hb : b = a
    · subst hb; rw [upd_same] at q; rw [h1]; exact q
    · rw [upd_ne hb] at q; exact r.gr.fh b u q
  · have hb : b ≠ a := fun z => q2 (z ▸ r.own0 i a oa)
    rw [upd_ne hb]; exact r.gr.nf b q1 q2
  · by_cases hb : b = a
    · subst hb; rw [upd_same] at q2; cases q2
    · rw [upd_ne hb] at q2; exact r.gr.nz b ob u q1 q2
  · by_cases hj : j = i
    · subst hj
      rw [List.getElem?_set_self hl] at e'; cases e'
      exact ⟨_, e2, den⟩
    · rw [List.getElem?_set_ne (Ne.symm hj)] at e'
      have q := r.sl j s e'
      cases s with
      | un => exact True.intro
      | adr a => exact q
      | val d => obtain ⟨v, e3, q⟩ := q; exact ⟨v, e3, q.mono hx⟩
      | own ds2 =>
        obtain ⟨b, ys, e3, k1, k2, k3⟩ := q
        have hb : b ≠ a := fun z => hj (r.sep j i a ⟨⟨ds2, e'⟩, z ▸ e3⟩ oa)
        exact ⟨b, ys, e3, k1, by rw [upd_ne hb]; exact k2, k3.mono hx⟩
/-- an own list is changed -/
theorem SR.change (r : SR K F0 H0 ρ σ H F) {i : Nat} {ds : List PyData} (e : ρ[i]? = some (.own ds)) {a : Addr} (e2 : σ[i]? = some (some (.ref a))) {xs : List V} {ds' : List PyData} (h : Dens K F xs ds') :
    SR K F0 H0 (ρ.set i (.own ds')) σ (upd H a (.lst xs)) F := by
  have oa : OwnAt ρ σ i a := ⟨⟨ds, e⟩, e2⟩
  obtain ⟨a', ys, e3, k1, k2, k3⟩ := r.sl i _ e
  rw [e2] at e3
  have e4 : V.ref a = V.ref a' := Option.some.inj (Option.some.inj e3)
  cases e4
  have hl : i < ρ.length := (List.getElem?_eq_some_iff.mp e).1
  have ow : ∀ j b, OwnAt (ρ.set i (.own ds')) σ j b → OwnAt ρ σ j b := fun j b ⟨⟨ds2, q1⟩, q2⟩ => by
    by_cases hj : j = i
    · subst hj; exact ⟨⟨ds, e⟩, q2⟩
    · rw [List.getElem?_set_ne (Ne.symm hj)] at q1; exact ⟨⟨ds2, q1⟩, q2⟩
  refine ⟨⟨r.gr.ff, fun b u q => ?_, fun b u q => ?_, r.gr.nf, r.gr.nz⟩, by simp [r.len], fun j s e' => ?_, fun j b o => r.own0 j b (ow j b o), fun j k b o1 o2 => r.sep j k b (ow j b o1) (ow k b o2)⟩
  · have hb : b ≠ a := fun z => by rw [z, r.own0 i a oa] at q; cases q
    rw [upd_ne hb]; exact r.gr.hh b u q
  · have hb : b ≠ a := fun z => by rw [z, k2] at q; cases q
    rw [upd_ne hb]; exact r.gr.fh b u q
  · by_cases hj : j = i
    · subst hj
      rw [List.getElem?_set_self hl] at e'; cases e'
      exact ⟨a, xs, e2, upd_same, k2, h⟩
    · rw [List.getElem?_set_ne (Ne.symm hj)] at e'
      have q := r.sl j s e'
      cases s with
      | un => exact True.intro
      | adr a => exact q
      | val d => exact q
      | own ds2 =>
        obtain ⟨b, zs, q3, q4, q5, q6⟩ := q
        have hb : b ≠ a := fun z => hj (r.sep j i a ⟨⟨ds2, e'⟩, z ▸ q3⟩ oa)
        exact ⟨b, zs, q3, by rw [upd_ne hb]; exact q4, q5, q6⟩
end
end DL

/-! DL2: readings by plain functions of the slots; the rules of expressions, tests, arguments. -/
namespace DL
open PySem PySem.Spec PyProof.Rows L2

/-- how an exception lies: its class by its name in the module, its own dict -/
def ExR (mg : Str → Option Value) (x : Xn) (cls : Value) (dd : Option Addr) (H F : Hp) : Prop :=
  mg x.nm = some cls ∧ ((x.fs = [] ∧ dd = none) ∨ (x.fs ≠ [] ∧ ∃ d, dd = some d ∧ H d = some (.xd x.fs) ∧ F d = none))

section
variable (mg : Str → Option Value) (K : PySem.W.Frag) (F0 H0 : Hp) (W : WX)
/-- what is left to be done with an outcome: R says what stands for what -/
def Rest {α β : Type} (R : Hp → β → α → Prop) (r : Res α) (σ : L2.St) (H F : Hp) (Q : β → Hp → Prop) : Prop :=
  match r with
  | .ok a => ∀ v H' F', Gr F H F' H' → R F' v a → Q v H'
  | .exc x => ∀ cls dd H' F', Gr F H F' H' → ExR mg x cls dd H' F' → W cls dd σ H'
  | .bad => False
def rd {α β : Type} (R : Hp → β → α → Prop) (f : Sls → Res α) : L2.St → Hp → (β → Hp → Prop) → Prop := fun σ H Q =>
  ∃ ρ F, SR K F0 H0 ρ σ H F ∧ Rest mg W R (f ρ) σ H F Q
end
abbrev REq {α : Type} : Hp → α → α → Prop := fun _ v a => v = a

section
variable {mg : Str → Option Value} {K : PySem.W.Frag} {F0 H0 : Hp} {W : WX} {α β γ δ : Type} {R : Hp → β → α → Prop} {R2 : Hp → δ → γ → Prop} {σ : L2.St} {H F H1 F1 : Hp} {ρ : Sls}
theorem Rest.grow {r : Res α} {Q : β → Hp → Prop} (g : Gr F H F1 H1) (h : Rest mg W R r σ H F Q) : Rest mg W R r σ H1 F1 Q := by
  cases r with
  | ok a => exact fun v H' F' g' r' => h v H' F' (g.trans g') r'
  | exc x => exact fun cls dd H' F' g' r' => h cls dd H' F' (g.trans g') r'
  | bad => exact h
theorem rd_step {f : Sls → Res α} {h : α → Res γ} {Q : δ → Hp → Prop} (sr : SR K F0 H0 ρ σ H F) (q : Rest mg W R2 (f ρ >>= h) σ H F Q) :
    rd mg K F0 H0 W R f σ H (fun v H1 => ∃ a F1, Gr F H F1 H1 ∧ R F1 v a ∧ SR K F0 H0 ρ σ H1 F1 ∧ Rest mg W R2 (h a) σ H1 F1 Q) := by
  refine ⟨ρ, F, sr, ?_⟩
  cases e : f ρ with
  | ok a => rw [e] at q; exact fun v H1 F1 g r => ⟨a, F1, g, r, sr.grow g, q.grow g⟩
  | exc x => rw [e] at q; exact q
  | bad => rw [e] at q; exact q
theorem Rest.imp {δ' : Type} {R' : Hp → δ' → α → Prop} {r : Res α} {Q : β → Hp → Prop} {Q' : δ' → Hp → Prop} (h : Rest mg W R r σ H F Q) (k : ∀ v H' F' a, Gr F H F' H' → R' F' v a → (∀ u H2 F2, Gr F' H' F2 H2 → R F2 u a → Q u H2) → Q' v H') : Rest mg W R' r σ H F Q' := by
  cases r with
  | ok a => exact fun v H' F' g r => k v H' F' a g r fun u H2 F2 g2 r2 => h u H2 F2 (g.trans g2) r2
  | exc x => exact h
  | bad => exact h
end

/-! ### the judgements -/
section
variable (X : Cx) (F0 H0 : Hp) (W : WX)
def DE (e : Expr) (f : Sls → Res PyData) : Prop := PE X e (rd X.mg X.K F0 H0 W (Den X.K) f)
def DT (e : Expr) (f : Sls → Res Bool) : Prop := PT X e (rd X.mg X.K F0 H0 W REq f)
def DW (e : Expr) (f : Sls → Res Bool) : Prop := PW X e (rd X.mg X.K F0 H0 W REq f)
def DA (es : List Expr) (f : Sls → Res (List PyData)) : Prop := PA X es (rd X.mg X.K F0 H0 W (Dens X.K) f)
def DO (e : Option Expr) (f : Sls → Res (Option Int)) : Prop := PO X e (rd X.mg X.K F0 H0 W REq f)
/-- a new list, kept apart -/
def nOf (mg : Str → Option Value) (K : PySem.W.Frag) (f : Sls → Res (List PyData)) : TE := fun σ H Q =>
  ∃ ρ F, SR K F0 H0 ρ σ H F ∧ match f ρ with
  | .ok ds => ∀ a xs H' F', Gr F H F' H' → H a = none → H' a = some (.lst xs) → F' a = none → Dens K F' xs ds → Q (.ref a) H'
  | .exc x => ∀ cls dd H' F', Gr F H F' H' → ExR mg x cls dd H' F' → W cls dd σ H'
  | .bad => False
def DN (e : Expr) (f : Sls → Res (List PyData)) : Prop := PE X e (nOf F0 H0 W X.mg X.K f)
end

theorem PE.imp {X : Cx} {e : Expr} {t t' : TE} (h : PE X e t) (k : ∀ σ H Q, t' σ H Q → t σ H Q) : PE X e t' := ⟨fun pins s σ H Q I q => h.run pins s σ H Q I (k σ H Q q)⟩
theorem PT.imp {X : Cx} {e : Expr} {t t' : TT} (h : PT X e t) (k : ∀ σ H Q, t' σ H Q → t σ H Q) : PT X e t' := ⟨fun pins s σ H Q I q => h.run pins s σ H Q I (k σ H Q q)⟩
theorem PW.imp {X : Cx} {e : Expr} {t t' : TT} (h : PW X e t) (k : ∀ σ H Q, t' σ H Q → t σ H Q) : PW X e t' := ⟨fun w pins s σ H Q I q => h.run w pins s σ H Q I (k σ H Q q)⟩
theorem PA.imp {X : Cx} {es : List Expr} {t t' : TA} (h : PA X es t) (k : ∀ σ H Q, t' σ H Q → t σ H Q) : PA X es t' := ⟨fun p pins s σ H Q I q => h.run p pins s σ H Q I (k σ H Q q)⟩
theorem PO.imp {X : Cx} {e : Option Expr} {t t' : TO} (h : PO X e t) (k : ∀ σ H Q, t' σ H Q → t σ H Q) : PO X e t' := ⟨fun pins s σ H Q I q => h.run pins s σ H Q I (k σ H Q q)⟩
theorem PS.imp {X : Cx} {e : Stmt} {t t' : TS} (h : PS X e t) (k : ∀ D σ H, t' D σ H → t D σ H) : PS X e t' := ⟨fun pins s σ H D I q => h.run pins s σ H D I (k D σ H q)⟩
theorem PSs.imp {X : Cx} {e : List Stmt} {t t' : TS} (h : PSs X e t) (k : ∀ D σ H, t' D σ H → t D σ H) : PSs X e t' := ⟨fun pins s σ H D I q => h.run pins s σ H D I (k D σ H q)⟩
theorem PI.imp {X : Cx} {tg e : Expr} {t t' : TI} (h : PI X tg e t) (k : ∀ σ H Q, t' σ H Q → t σ H Q) : PI X tg e t' := ⟨fun pins s σ H Q I q => h.run pins s σ H Q I (k σ H Q q)⟩

/-! ### operations on data -/
def ofO {α : Type} : Option α → Res α
  | some a => .ok a
  | none => .bad
@[simp] theorem ofO_some {α : Type} (a : α) : ofO (some a) = .ok a := nd rfl
@[simp] theorem ofO_none {α : Type} : ofO (none : Option α) = .bad := nd rfl
section
variable (K : PySem.W.Frag)
def Rop (r : Option PyData) (H F : Hp) (Q : VK) : Prop := match r with
  | some d => ∀ v H' F', Gr F H F' H' → Den K F' v d → Q v H'
  | none => False
def r2 (g : PyData → PyData → Option PyData) : R2 := fun x y H Q => ∃ a b F, Ex F H ∧ Den K F x a ∧ Den K F y b ∧ Rop K (g a b) H F Q
def r1 (g : PyData → Option PyData) : V → Hp → VK → Prop := fun x H Q => ∃ a F, Ex F H ∧ Den K F x a ∧ Rop K (g a) H F Q
def rL (g : List PyData → Option PyData) : List V → Hp → VK → Prop := fun xs H Q => ∃ as F, Ex F H ∧ Dens K F xs as ∧ Rop K (g as) H F Q
def rM (g : PyData → List PyData → Option PyData) : V → List V → Hp → VK → Prop := fun x xs H Q => ∃ a as F, Ex F H ∧ Den K F x a ∧ Dens K F xs as ∧ Rop K (g a as) H F Q
end
section
variable {mg : Str → Option Value} {K : PySem.W.Frag} {W : WX} {σ : L2.St} {H F : Hp} {Q : VK}
theorem Rest.rop {r : Option PyData} (h : Rest mg W (Den K) (ofO r) σ H F Q) : Rop K r H F Q := by
  cases r with
  | some a => exact h
  | none => exact h
theorem Rop.val {d : PyData} (e : Ex F H) {v : V} (h : Rop K (some d) H F Q) (q : Den K F v d) : Q v H := h v H F (.refl e) q
theorem Rop.newT (e : Ex F H) {xs : List V} {ds : List PyData} (h : Rop K (some (.tuple ds)) H F Q) (q : Dens K F xs ds) {p : Addr} (hp : H p = none) : Q (.ref p) (upd H p (.tup xs)) := by
  have g := Gr.new (o := .tup xs) e hp
  exact h _ _ _ g (.tup (.inl (.inl upd_same)) (q.mono g.ff))
theorem Rop.newL (e : Ex F H) {xs : List V} {ds : List PyData} (h : Rop K (some (.list ds)) H F Q) (q : Dens K F xs ds) {p : Addr} (hp : H p = none) : Q (.ref p) (upd H p (.lst xs)) := by
  have g := Gr.new (o := .lst xs) e hp
  exact h _ _ _ g (.lst (.inl (.inl upd_same)) (q.mono g.ff))
end

/-! ### the rules of expressions -/
section
variable {X : Cx} {F0 H0 : Hp} {W : WX} {pos : Pos} {a b c e : Expr} {es : List Expr} {f f1 f2 f3 : Sls → Res PyData} {t t1 t2 : Sls → Res Bool} {fs : Sls → Res (List PyData)}
def dVar (i : Nat) (ρ : Sls) : Res PyData := match ρ[i]? with
  | some (.val d) => .ok d
  | _ => .bad
theorem de_var {i : Nat} {x : Str} (h : PE X (.Name x pos) (tVar i)) : DE X F0 H0 W (.Name x pos) (dVar i) := by
  refine PE.imp h fun σ H Q ⟨ρ, F, sr, q⟩ => ?_
  unfold dVar at q
  cases e : ρ[i]? with
  | none => rw [e] at q; exact q.elim
  | some s =>
    rw [e] at q
    cases s with
    | val d =>
      obtain ⟨v, e2, dn⟩ := sr.sl i _ e
      exact ⟨v, e2, q v H F (.refl sr.ex) dn⟩
    | un => exact q.elim
    | adr a => exact q.elim
    | own ds => exact q.elim
theorem de_c {v : V} {d : PyData} (h : PE X e (tC v)) (hd : ∀ F, Den X.K F v d) : DE X F0 H0 W e (fun _ => .ok d) :=
  PE.imp h fun σ H Q ⟨ρ, F, sr, q⟩ => q v H F (.refl sr.ex) (hd F)
theorem de_int {i j} : DE X F0 H0 W (.Constant (.int i) j pos) (fun _ => .ok (.int i)) := de_c pe_int fun _ => .int i
theorem de_bl {b j} : DE X F0 H0 W (.Constant (.bool b) j pos) (fun _ => .ok (.bool b)) := de_c pe_bl fun _ => .bl b
theorem de_non {j} : DE X F0 H0 W (.Constant .none j pos) (fun _ => .ok .none) := de_c pe_non fun _ => .non
theorem de_str {x j} : DE X F0 H0 W (.Constant (.str x) j pos) (fun _ => .ok (.str x)) := de_c pe_str fun _ => .str x
theorem de_glob {x : Str} {v : V} {u : Value} {d : PyData} (hg : Gl X x) (hm : X.mg x = some u) (r : RelV v u) (hd : ∀ F, Den X.K F v d) (h : (x == ("__debug__" : Str)) = false := by decide) : DE X F0 H0 W (.Name x pos) (fun _ => .ok d) :=
  de_c (pe_glob hg hm r h) hd

/-- two operands, then an operation on their values -/
theorem two {g : PyData → PyData → Option PyData} {σ : L2.St} {H : Hp} {Q : VK} (h : rd X.mg X.K F0 H0 W (Den X.K) (fun ρ => f1 ρ >>= fun x => f2 ρ >>= fun y => ofO (g x y)) σ H Q) :
    tOp (r2 X.K g) (rd X.mg X.K F0 H0 W (Den X.K) f1) (rd X.mg X.K F0 H0 W (Den X.K) f2) σ H Q := by
  obtain ⟨ρ, F, sr, q⟩ := h
  obtain ⟨ρ1, F1, sr1, q1⟩ := rd_step (R := Den X.K) sr q
  refine ⟨ρ1, F1, sr1, q1.imp fun v H1 F2 a g1 r1 k => ?_⟩
  obtain ⟨a', F3, g3, r3, sr3, q3⟩ := k v H1 F2 (.refl g1.fh) r1
  obtain ⟨ρ4, F4, sr4, q4⟩ := rd_step (R := Den X.K) sr3 q3
  refine ⟨ρ4, F4, sr4, q4.imp fun u H5 F5 b g5 r5 k5 => ?_⟩
  obtain ⟨b', F6, g6, r6, sr6, q6⟩ := k5 u H5 F5 (.refl g5.fh) r5
  exact ⟨a', b', F6, sr6.ex, r3.mono g6.ff, r6, q6.rop⟩
def d2 (g : PyData → PyData → Option PyData) (f1 f2 : Sls → Res PyData) (ρ : Sls) : Res PyData := f1 ρ >>= fun x => f2 ρ >>= fun y => ofO (g x y)
def d1 (g : PyData → Option PyData) (f1 : Sls → Res PyData) (ρ : Sls) : Res PyData := f1 ρ >>= fun x => ofO (g x)
theorem de_bin {op : Operator} {g : PyData → PyData → Option PyData} (ho : OpR X (binaryOp op) (r2 X.K g)) (ha : DE X F0 H0 W a f1) (hb : DE X F0 H0 W b f2) : DE X F0 H0 W (.BinOp a op b pos) (d2 g f1 f2) :=
  PE.imp (pe_op ho ha hb) fun _ _ _ h => two h
theorem de_cmp {op : CmpOp} {g : PyData → PyData → Option PyData} (ho : OpR X (compareOp op) (r2 X.K g)) (ha : DE X F0 H0 W a f1) (hb : DE X F0 H0 W b f2) (hm : behindInMarks op b = false) : DE X F0 H0 W (.Compare a [op] [b] pos) (d2 g f1 f2) :=
  PE.imp (pe_cmpR ho ha hb hm) fun _ _ _ h => two h
theorem de_ix {g : PyData → PyData → Option PyData} (ho : IxR X (r2 X.K g)) (ha : DE X F0 H0 W a f1) (hb : DE X F0 H0 W b f2) (hs : PlainIx b) : DE X F0 H0 W (.Subscript a b pos) (d2 g f1 f2) :=
  PE.imp (pe_ix ho ha hb hs) fun _ _ _ h => two h
theorem one {g : PyData → Option PyData} {σ : L2.St} {H : Hp} {Q : VK} (h : rd X.mg X.K F0 H0 W (Den X.K) (d1 g f1) σ H Q) : tUn (r1 X.K g) (rd X.mg X.K F0 H0 W (Den X.K) f1) σ H Q := by
  obtain ⟨ρ, F, sr, q⟩ := h
  obtain ⟨ρ1, F1, sr1, q1⟩ := rd_step (R := Den X.K) sr q
  refine ⟨ρ1, F1, sr1, q1.imp fun v H1 F2 a g1 r1 k => ?_⟩
  obtain ⟨a', F3, g3, r3, sr3, q3⟩ := k v H1 F2 (.refl g1.fh) r1
  exact ⟨a', F3, sr3.ex, r3, q3.rop⟩
theorem de_un {op : UnaryOp} {g : PyData → Option PyData} (ho : UnR X (unaryOp op) (r1 X.K g)) (ha : DE X F0 H0 W a f1) : DE X F0 H0 W (.UnaryOp op a pos) (d1 g f1) :=
  PE.imp (pe_un ho ha) fun _ _ _ h => one h

/-! arguments -/
theorem da_nil : DA X F0 H0 W [] (fun _ => .ok []) := PA.imp pa_nil fun σ H Q ⟨ρ, F, sr, q⟩ => q [] H F (.refl sr.ex) .nil
def dCons (f : Sls → Res PyData) (fs : Sls → Res (List PyData)) (ρ : Sls) : Res (List PyData) := f ρ >>= fun x => fs ρ >>= fun xs => .ok (x :: xs)
theorem da_cons (ha : DE X F0 H0 W e f) (hr : DA X F0 H0 W es fs) (hs : starEach (e :: es) X.env = (false, eval e X.env) :: starEach es X.env := by rfl) : DA X F0 H0 W (e :: es) (dCons f fs) := by
  refine PA.imp (pa_cons ha hr hs) fun σ H Q ⟨ρ, F, sr, q⟩ => ?_
  obtain ⟨ρ1, F1, sr1, q1⟩ := rd_step (R := Den X.K) sr q
  refine ⟨ρ1, F1, sr1, q1.imp fun v H1 F2 a g1 r1 k => ?_⟩
  obtain ⟨a', F3, g3, r3, sr3, q3⟩ := k v H1 F2 (.refl g1.fh) r1
  obtain ⟨ρ4, F4, sr4, q4⟩ := rd_step (R := Dens X.K) sr3 q3
  refine ⟨ρ4, F4, sr4, q4.imp fun u H5 F5 b g5 r5 k5 => ?_⟩
  obtain ⟨b', F6, g6, r6, sr6, q6⟩ := k5 u H5 F5 (.refl g5.fh) r5
  exact q6 _ _ F6 (.refl sr6.ex) (.cons (r3.mono g6.ff) r6)
def dL (g : List PyData → Option PyData) (fs : Sls → Res (List PyData)) (ρ : Sls) : Res PyData := fs ρ >>= fun xs => ofO (g xs)
theorem manyArgs {g : List PyData → Option PyData} {σ : L2.St} {H : Hp} {Q : VK} (h : rd X.mg X.K F0 H0 W (Den X.K) (dL g fs) σ H Q) : tCB (rL X.K g) (rd X.mg X.K F0 H0 W (Dens X.K) fs) σ H Q := by
  obtain ⟨ρ, F, sr, q⟩ := h
  obtain ⟨ρ1, F1, sr1, q1⟩ := rd_step (R := Dens X.K) sr q
  refine ⟨ρ1, F1, sr1, q1.imp fun v H1 F2 a g1 r1 k => ?_⟩
  obtain ⟨a', F3, g3, r3, sr3, q3⟩ := k v H1 F2 (.refl g1.fh) r1
  exact ⟨a', F3, sr3.ex, r3, q3.rop⟩
theorem de_callB {x : Str} {p : Pos} {id : String} {g : List PyData → Option PyData} (hc : CallR X (.builtin id) (rL X.K g)) (hg : Gl X x) (hm : X.mg x = none) (hv : bootBuiltins x = some (.builtin id)) (ha : DA X F0 H0 W (e :: es) fs) (hn : x ≠ "__name__" := by decide) (hdb : (x == ("__debug__" : Str)) = false := by decide)
    (he : starEach (e :: es) X.env = (false, eval e X.env) :: starEach es X.env := by rfl) (hpl : (backTo pos (starEach es X.env)).any (·.1) = false := by rfl) : DE X F0 H0 W (.Call (.Name x p) (e :: es) [] pos) (dL g fs) :=
  PE.imp (pe_callB hc hg hm hv ha hn hdb he hpl) fun _ _ _ h => manyArgs h
theorem de_callTy {x : Str} {p : Pos} {T : String} {g : List PyData → Option PyData} (hc : CallR X (.type T) (rL X.K g)) (hg : Gl X x) (hm : X.mg x = none) (hv : bootBuiltins x = some (.type T)) (ha : DA X F0 H0 W (e :: es) fs) (hn : x ≠ "__name__" := by decide) (hdb : (x == ("__debug__" : Str)) = false := by decide)
    (he : starEach (e :: es) X.env = (false, eval e X.env) :: starEach es X.env := by rfl) (hpl : (backTo pos (starEach es X.env)).any (·.1) = false := by rfl) : DE X F0 H0 W (.Call (.Name x p) (e :: es) [] pos) (dL g fs) :=
  PE.imp (pe_callTy hc hg hm hv ha hn hdb he hpl) fun _ _ _ h => manyArgs h
theorem de_tup {x1} (h : DA X F0 H0 W es fs) : DE X F0 H0 W (.Tuple es x1 pos) (dL (fun ds => if ds.length ≤ 1000 then some (.tuple ds) else none) fs) := by
  refine PE.imp (pe_tup h) fun σ H Q ⟨ρ, F, sr, q⟩ => ?_
  obtain ⟨ρ1, F1, sr1, q1⟩ := rd_step (R := Dens X.K) sr q
  refine ⟨ρ1, F1, sr1, q1.imp fun v H1 F2 a g1 r1 k => ?_⟩
  obtain ⟨a', F3, g3, r3, sr3, q3⟩ := k v H1 F2 (.refl g1.fh) r1
  have q4 := q3.rop
  have hl := r3.length
  by_cases hz : a'.length ≤ 1000
  · simp only [hz, if_true] at q4
    exact ⟨by rw [hl]; exact Nat.le_trans hz (by decide), fun p hp => q4.newT sr3.ex r3 hp⟩
  · simp only [hz, if_false] at q4
    exact q4.elim
theorem dn_lst (h : DA X F0 H0 W es fs) : DN X F0 H0 W (.List es pos) (fun ρ => fs ρ >>= fun ds => if ds.length ≤ 1000 then .ok ds else .bad) := by
  refine PE.imp (pe_lst h) fun σ H Q ⟨ρ, F, sr, q⟩ => ?_
  refine ⟨ρ, F, sr, ?_⟩
  cases e : fs ρ with
  | ok ds =>
    simp only [e, bind_ok] at q
    intro v H1 F1 g1 r1
    have hl := r1.length
    by_cases hz : ds.length ≤ 1000
    · simp only [hz, if_true] at q
      refine ⟨by rw [hl]; exact Nat.le_trans hz (by decide), fun p hp => ?_⟩
      have hp0 : H p = none := not_of_none g1.hh hp
      exact q p v _ F1 (g1.trans (Gr.newO g1.fh hp)) hp0 upd_same (not_of_none g1.fh hp) r1
    · simp only [hz, if_false] at q
  | exc x => simp only [e, bind_exc] at q; exact q
  | bad => simp only [e, bind_bad] at q
/-- a new list as data -/
theorem DN.de {fs : Sls → Res (List PyData)} (h : DN X F0 H0 W e fs) : DE X F0 H0 W e (fun ρ => fs ρ >>= fun ds => .ok (.list ds)) := by
  refine PE.imp h fun σ H Q ⟨ρ, F, sr, q⟩ => ⟨ρ, F, sr, ?_⟩
  cases e : fs ρ with
  | ok ds =>
    simp only [e, bind_ok] at q
    intro a xs H1 F1 g1 ha hx hF dn
    have hx1 : Ex F1 (upd F1 a (.lst xs)) := Ex.new hF
    refine q (.ref a) H1 (upd F1 a (.lst xs)) ⟨g1.ff.trans hx1, g1.hh, fun b u z => ?_, fun b z1 z2 => ?_, fun b ob u z1 z2 => ?_⟩ (.lst (.inl (.inl upd_same)) (dn.mono hx1))
    · by_cases hb : b = a
      · subst hb; rw [upd_same] at z; rw [hx]; exact z
      · rw [upd_ne hb] at z; exact g1.fh b u z
    · have hb : b ≠ a := fun z => z2 (z ▸ ha)
      rw [upd_ne hb]; exact g1.nf b z1 z2
    · by_cases hb : b = a
      · subst hb; rw [upd_same] at z2; cases z2
      · rw [upd_ne hb] at z2; exact g1.nz b ob u z1 z2
  | exc x => simp only [e, bind_exc] at q; exact q
  | bad => simp only [e, bind_bad] at q; exact q

/-! ### tests -/
def asB : PyData → Option Bool
  | .bool b => some b
  | _ => none
/-- a value that is a bool, as a test -/
theorem rdB {σ : L2.St} {H : Hp} {Q : Bool → Hp → Prop} (h : rd X.mg X.K F0 H0 W REq (fun ρ => f ρ >>= fun d => ofO (asB d)) σ H Q) :
    rd X.mg X.K F0 H0 W (Den X.K) f σ H fun x H1 => ∃ k, x = .bl k ∧ Q k H1 := by
  obtain ⟨ρ, F, sr, q⟩ := h
  obtain ⟨ρ1, F1, sr1, q1⟩ := rd_step (R := Den X.K) sr q
  refine ⟨ρ1, F1, sr1, q1.imp fun v H1 F2 d g1 r1 k => ?_⟩
  obtain ⟨a', F3, g3, r3, sr3, q3⟩ := k v H1 F2 (.refl g1.fh) r1
  cases r3 with
  | bl b => exact ⟨b, rfl, q3 b H1 F3 (.refl sr3.ex) rfl⟩
  | _ => exact q3.elim
def dB (f : Sls → Res PyData) (ρ : Sls) : Res Bool := f ρ >>= fun d => ofO (asB d)
theorem dt_val (h : DE X F0 H0 W e f) (he : ∀ whole, isTrue e X.env whole = (do let v ← whole; standAt e.pos; holding [v] (truthy v)) := by intro _; rfl) : DT X F0 H0 W e (dB f) :=
  PT.imp (pt_val h he) fun _ _ _ q => rdB q
theorem dt_cmp {op : CmpOp} {g : PyData → PyData → Option PyData} (ho : OpR X (compareOp op) (r2 X.K g)) (ha : DE X F0 H0 W a f1) (hb : DE X F0 H0 W b f2) (hm : behindInMarks op b = false) : DT X F0 H0 W (.Compare a [op] [b] pos) (dB (d2 g f1 f2)) := by
  refine PT.imp (pt_cmpR ho ha hb hm) fun σ H Q q => ?_
  have q2 := rdB (f := d2 g f1 f2) q
  exact two q2
def truD : PyData → Option Bool
  | .none => some false
  | .bool b => some b
  | .int i => some (i != 0)
  | .str x => if x.length ≤ 16777216 then some ((x.length : Int) != 0) else none
  | .list xs => some (!xs.isEmpty)
  | .tuple xs => some (!xs.isEmpty)
  | .dict kvs => some (!kvs.isEmpty)
theorem empty_dens {K : PySem.W.Frag} {F : Hp} {vs : List V} {ds : List PyData} (h : Dens K F vs ds) : vs.isEmpty = ds.isEmpty := by cases h <;> rfl
theorem empty_denkv {K : PySem.W.Frag} {F : Hp} {vs : List (Key × V)} {ds : List (PyData × PyData)} (h : DenKV K F vs ds) : vs.isEmpty = ds.isEmpty := by cases h <;> rfl
theorem line24 : sizeLine = 16777216 := sizeLine_eq
theorem Den.tru {K : PySem.W.Frag} {F H : Hp} (e : Ex F H) {v : V} {d : PyData} {k : Bool} (h : Den K F v d) (q : truD d = some k) : TruV K v H k := by
  cases h with
  | non => cases q; exact rfl
  | bl b => cases q; exact rfl
  | int i => cases q; exact rfl
  | str x =>
    have q' : (if x.length ≤ 16777216 then some ((x.length : Int) != 0) else none) = some k := q
    by_cases hz : x.length ≤ 16777216
    · rw [if_pos hz] at q'
      cases q'
      exact ⟨by rw [line24]; exact hz, rfl⟩
    · rw [if_neg hz] at q'
      cases q'
  | lst h r => cases q; exact .inl ⟨_, e.sl h, by rw [empty_dens r]⟩
  | tup h r => cases q; exact .inr (.inl ⟨_, e.st h, by rw [empty_dens r]⟩)
  | dic h r => cases q; exact .inr (.inr ⟨_, e _ _ h, by rw [empty_denkv r]⟩)
def dTru (f : Sls → Res PyData) (ρ : Sls) : Res Bool := f ρ >>= fun d => ofO (truD d)
theorem dt_truth (h : DE X F0 H0 W e f) (he : ∀ whole, isTrue e X.env whole = (do let v ← whole; standAt e.pos; holding [v] (truthy v)) := by intro _; rfl) : DT X F0 H0 W e (dTru f) := by
  refine PT.imp (pt_truth h he) fun σ H Q ⟨ρ, F, sr, q⟩ => ?_
  obtain ⟨ρ1, F1, sr1, q1⟩ := rd_step (R := Den X.K) sr q
  refine ⟨ρ1, F1, sr1, q1.imp fun v H1 F2 d g1 r1 k => ?_⟩
  obtain ⟨a', F3, g3, r3, sr3, q3⟩ := k v H1 F2 (.refl g1.fh) r1
  cases e : truD a' with
  | none => rw [e] at q3; exact q3.elim
  | some k => rw [e] at q3; exact ⟨k, r3.tru sr3.ex e, q3 k H1 F3 (.refl sr3.ex) rfl⟩
def dNot (t : Sls → Res Bool) (ρ : Sls) : Res Bool := t ρ >>= fun b => .ok (!b)
def dAnd (t1 t2 : Sls → Res Bool) (ρ : Sls) : Res Bool := t1 ρ >>= fun b => if b = true then t2 ρ else .ok false
def dOr (t1 t2 : Sls → Res Bool) (ρ : Sls) : Res Bool := t1 ρ >>= fun b => if b = true then .ok true else t2 ρ
theorem dt_not (ha : DT X F0 H0 W a t1) : DT X F0 H0 W (.UnaryOp .Not a pos) (dNot t1) := by
  refine PT.imp (pt_not ha) fun σ H Q ⟨ρ, F, sr, q⟩ => ?_
  obtain ⟨ρ1, F1, sr1, q1⟩ := rd_step (R := REq) sr q
  refine ⟨ρ1, F1, sr1, q1.imp fun v H1 F2 d g1 r1 k => ?_⟩
  obtain ⟨a', F3, g3, rfl, sr3, q3⟩ := k v H1 F2 (.refl g1.fh) r1
  exact q3 _ H1 F3 (.refl sr3.ex) rfl
theorem dw_and1 (ha : DT X F0 H0 W a t1) : DW X F0 H0 W (.BoolOp .And [a] pos) t1 := pw_and1 ha
theorem dw_or1 (ha : DT X F0 H0 W a t1) : DW X F0 H0 W (.BoolOp .Or [a] pos) t1 := pw_or1 ha
theorem dw_and {rest : List Expr} (ha : DT X F0 H0 W a t1) (hb : DW X F0 H0 W (.BoolOp .And (b :: rest) pos) t2) : DW X F0 H0 W (.BoolOp .And (a :: b :: rest) pos) (dAnd t1 t2) := by
  refine PW.imp (pw_and ha hb) fun σ H Q ⟨ρ, F, sr, q⟩ => ?_
  refine ⟨ρ, F, sr, ?_⟩
  unfold dAnd at q
  cases e : t1 ρ with
  | ok b' =>
    simp only [e, bind_ok] at q
    intro v H1 F1 g1 r1
    obtain rfl : v = b' := r1
    cases v with
    | true => simp only [if_true] at q ⊢; exact ⟨ρ, F1, sr.grow g1, q.grow g1⟩
    | false => simp only [Bool.false_eq_true, if_false] at q ⊢; exact q false H1 F1 g1 rfl
  | exc x => simp only [e, bind_exc] at q; exact q
  | bad => simp only [e, bind_bad] at q; exact q
theorem dw_or {rest : List Expr} (ha : DT X F0 H0 W a t1) (hb : DW X F0 H0 W (.BoolOp .Or (b :: rest) pos) t2) : DW X F0 H0 W (.BoolOp .Or (a :: b :: rest) pos) (dOr t1 t2) := by
  refine PW.imp (pw_or ha hb) fun σ H Q ⟨ρ, F, sr, q⟩ => ?_
  refine ⟨ρ, F, sr, ?_⟩
  unfold dOr at q
  cases e : t1 ρ with
  | ok b' =>
    simp only [e, bind_ok] at q
    intro v H1 F1 g1 r1
    obtain rfl : v = b' := r1
    cases v with
    | false => simp only [Bool.false_eq_true, if_false] at q ⊢; exact ⟨ρ, F1, sr.grow g1, q.grow g1⟩
    | true => simp only [if_true] at q ⊢; exact q true H1 F1 g1 rfl
  | exc x => simp only [e, bind_exc] at q; exact q
  | bad => simp only [e, bind_bad] at q; exact q
theorem DW.dt (h : DW X F0 H0 W e t) : DT X F0 H0 W e t := PW.pt h

/-! values of and, or, not, if -/
def dIf (t : Sls → Res Bool) (f1 f2 : Sls → Res PyData) (ρ : Sls) : Res PyData := t ρ >>= fun b => if b = true then f1 ρ else f2 ρ
theorem de_ifExp (hc : DT X F0 H0 W c t) (ha : DE X F0 H0 W a f1) (hb : DE X F0 H0 W b f2) : DE X F0 H0 W (.IfExp c a b pos) (dIf t f1 f2) := by
  refine PE.imp (pe_ifExp hc ha hb) fun σ H Q ⟨ρ, F, sr, q⟩ => ?_
  refine ⟨ρ, F, sr, ?_⟩
  unfold dIf at q
  cases e : t ρ with
  | ok b' =>
    simp only [e, bind_ok] at q
    intro v H1 F1 g1 r1
    obtain rfl : v = b' := r1
    cases v with
    | false => simp only [Bool.false_eq_true, if_false] at q ⊢; exact ⟨ρ, F1, sr.grow g1, q.grow g1⟩
    | true => simp only [if_true] at q ⊢; exact ⟨ρ, F1, sr.grow g1, q.grow g1⟩
  | exc x => simp only [e, bind_exc] at q; exact q
  | bad => simp only [e, bind_bad] at q; exact q
/-- x and y, x or y as values, by truth -/
def dAndV (f1 f2 : Sls → Res PyData) (ρ : Sls) : Res PyData := f1 ρ >>= fun d => ofO (truD d) >>= fun b => if b = true then f2 ρ else .ok d
def dOrV (f1 f2 : Sls → Res PyData) (ρ : Sls) : Res PyData := f1 ρ >>= fun d => ofO (truD d) >>= fun b => if b = true then .ok d else f2 ρ
theorem de_one {op} (h : DE X F0 H0 W a f) : DE X F0 H0 W (.BoolOp op [a] pos) f := pe_one h
theorem de_and {rest : List Expr} (ha : DE X F0 H0 W a f1) (hb : DE X F0 H0 W (.BoolOp .And (b :: rest) pos) f2) : DE X F0 H0 W (.BoolOp .And (a :: b :: rest) pos) (dAndV f1 f2) := by
  refine PE.imp (pe_andT ha hb) fun σ H Q ⟨ρ, F, sr, q⟩ => ⟨ρ, F, sr, ?_⟩
  unfold dAndV at q
  cases e : f1 ρ with
  | ok d =>
    simp only [e, bind_ok] at q
    intro v H1 F1 g1 r1
    cases e2 : truD d with
    | none => simp only [e2, ofO_none, bind_bad] at q; exact q.elim
    | some k =>
      simp only [e2, ofO_some, bind_ok] at q
      refine ⟨k, r1.tru g1.fh e2, ?_⟩
      cases k with
      | true => simp only [if_true] at q ⊢; exact ⟨ρ, F1, sr.grow g1, q.grow g1⟩
      | false => simp only [Bool.false_eq_true, if_false] at q ⊢; exact q v H1 F1 g1 r1
  | exc x => simp only [e, bind_exc] at q; exact q
  | bad => simp only [e, bind_bad] at q; exact q
theorem de_or {rest : List Expr} (ha : DE X F0 H0 W a f1) (hb : DE X F0 H0 W (.BoolOp .Or (b :: rest) pos) f2) : DE X F0 H0 W (.BoolOp .Or (a :: b :: rest) pos) (dOrV f1 f2) := by
  refine PE.imp (pe_orT ha hb) fun σ H Q ⟨ρ, F, sr, q⟩ => ⟨ρ, F, sr, ?_⟩
  unfold dOrV at q
  cases e : f1 ρ with
  | ok d =>
    simp only [e, bind_ok] at q
    intro v H1 F1 g1 r1
    cases e2 : truD d with
    | none => simp only [e2, ofO_none, bind_bad] at q; exact q.elim
    | some k =>
      simp only [e2, ofO_some, bind_ok] at q
      refine ⟨k, r1.tru g1.fh e2, ?_⟩
      cases k with
      | false => simp only [Bool.false_eq_true, if_false] at q ⊢; exact ⟨ρ, F1, sr.grow g1, q.grow g1⟩
      | true => simp only [if_true] at q ⊢; exact q v H1 F1 g1 r1
  | exc x => simp only [e, bind_exc] at q; exact q
  | bad => simp only [e, bind_bad] at q; exact q
theorem de_not (ha : DE X F0 H0 W a f1) : DE X F0 H0 W (.UnaryOp .Not a pos) (d1 (fun d => (truD d).map fun b => .bool (!b)) f1) := by
  refine PE.imp (pe_notT ha) fun σ H Q ⟨ρ, F, sr, q⟩ => ?_
  obtain ⟨ρ1, F1, sr1, q1⟩ := rd_step (R := Den X.K) sr q
  refine ⟨ρ1, F1, sr1, q1.imp fun v H1 F2 d g1 r1 k => ?_⟩
  obtain ⟨a', F3, g3, r3, sr3, q3⟩ := k v H1 F2 (.refl g1.fh) r1
  cases e : truD a' with
  | none => simp only [e, Option.map_none] at q3; exact q3.elim
  | some k => simp only [e, Option.map_some] at q3; exact ⟨k, r3.tru sr3.ex e, q3 _ H1 F3 (.refl sr3.ex) (.bl _)⟩
/-- a < b < c -/
def dChain (g g' : PyData → PyData → Option PyData) (f1 f2 f3 : Sls → Res PyData) (ρ : Sls) : Res PyData :=
  f1 ρ >>= fun x => f2 ρ >>= fun y => ofO ((g x y).bind asB) >>= fun k => if k = true then f3 ρ >>= fun z => ofO (g' y z) else .ok (.bool false)
theorem chain {g g' : PyData → PyData → Option PyData} {σ : L2.St} {H : Hp} {Q : VK} (h : rd X.mg X.K F0 H0 W (Den X.K) (dChain g g' f1 f2 f3) σ H Q) :
    tChain (r2 X.K g) (r2 X.K g') (rd X.mg X.K F0 H0 W (Den X.K) f1) (rd X.mg X.K F0 H0 W (Den X.K) f2) (rd X.mg X.K F0 H0 W (Den X.K) f3) σ H Q := by
  obtain ⟨ρ, F, sr, q⟩ := h
  obtain ⟨ρ1, F1, sr1, q1⟩ := rd_step (R := Den X.K) sr q
  refine ⟨ρ1, F1, sr1, q1.imp fun v H1 F2 a g1 r1 k => ?_⟩
  obtain ⟨a', F3, g3, r3, sr3, q3⟩ := k v H1 F2 (.refl g1.fh) r1
  obtain ⟨ρ4, F4, sr4, q4⟩ := rd_step (R := Den X.K) sr3 q3
  refine ⟨ρ4, F4, sr4, q4.imp fun u H5 F5 b g5 r5 k5 => ?_⟩
  obtain ⟨b', F6, g6, r6, sr6, q6⟩ := k5 u H5 F5 (.refl g5.fh) r5
  refine ⟨a', b', F6, sr6.ex, r3.mono g6.ff, r6, ?_⟩
  cases e : g a' b' with
  | none => simp only [e, Option.bind_none, ofO_none, bind_bad] at q6; exact q6.elim
  | some d =>
    simp only [e, Option.bind_some] at q6
    intro w H7 F7 g7 r7
    cases r7 with
    | bl k =>
      simp only [asB, ofO_some, bind_ok] at q6
      refine ⟨k, rfl, ?_⟩
      cases k with
      | false => simp only [Bool.false_eq_true, if_false] at q6 ⊢; exact q6 _ _ F7 g7 (.bl false)
      | true =>
        simp only [if_true] at q6 ⊢
        obtain ⟨ρ8, F8, sr8, q8⟩ := rd_step (R := Den X.K) (sr6.grow g7) (q6.grow g7)
        refine ⟨ρ8, F8, sr8, q8.imp fun z H9 F9 c g9 r9 k9 => ?_⟩
        obtain ⟨c', FA, gA, rA, srA, qA⟩ := k9 z H9 F9 (.refl g9.fh) r9
        exact ⟨b', c', FA, srA.ex, (r6.mono g7.ff).mono gA.ff, rA, qA.rop⟩
    | _ => exact q6.elim
theorem de_chain {op op' : CmpOp} {g g' : PyData → PyData → Option PyData} (ho : OpR X (compareOp op) (r2 X.K g)) (ho' : OpR X (compareOp op') (r2 X.K g')) (ha : DE X F0 H0 W a f1) (hb : DE X F0 H0 W b f2) (hc : DE X F0 H0 W c f3)
    (hm : lastMarks [op, op'] [b, c] = false := by with_unfolding_all rfl) : DE X F0 H0 W (.Compare a [op, op'] [b, c] pos) (dChain g g' f1 f2 f3) := PE.imp (pe_chain ho ho' ha hb hc hm) fun _ _ _ h => chain h
theorem dt_chain {op op' : CmpOp} {g g' : PyData → PyData → Option PyData} (ho : OpR X (compareOp op) (r2 X.K g)) (ho' : OpR X (compareOp op') (r2 X.K g')) (ha : DE X F0 H0 W a f1) (hb : DE X F0 H0 W b f2) (hc : DE X F0 H0 W c f3)
    (hm : lastMarks [op, op'] [b, c] = false := by with_unfolding_all rfl) : DT X F0 H0 W (.Compare a [op, op'] [b, c] pos) (dB (dChain g g' f1 f2 f3)) := by
  refine PT.imp (pt_chain ho ho' ha hb hc hm) fun σ H Q q => ?_
  have q2 := rdB (f := dChain g g' f1 f2 f3) q
  exact chain q2
/-! slices -/
theorem do_none : DO X F0 H0 W none (fun _ => .ok none) := PO.imp po_none fun σ H Q ⟨ρ, F, sr, q⟩ => q none H F (.refl sr.ex) rfl
def asI : PyData → Option Int
  | .int i => some i
  | _ => none
theorem do_some (h : DE X F0 H0 W e f) : DO X F0 H0 W (some e) (fun ρ => f ρ >>= fun d => ofO ((asI d).map some)) := by
  refine PO.imp (po_some h) fun σ H Q ⟨ρ, F, sr, q⟩ => ?_
  obtain ⟨ρ1, F1, sr1, q1⟩ := rd_step (R := Den X.K) sr q
  refine ⟨ρ1, F1, sr1, q1.imp fun v H1 F2 d g1 r1 k => ?_⟩
  obtain ⟨a', F3, g3, r3, sr3, q3⟩ := k v H1 F2 (.refl g1.fh) r1
  cases r3 with
  | int i => exact ⟨i, rfl, q3 _ H1 F3 (.refl sr3.ex) rfl⟩
  | _ => exact q3.elim
def rS (K : PySem.W.Frag) (g : PyData → Option Int → Option Int → Option PyData) : V → Option Int → Option Int → Hp → VK → Prop := fun x lo hi H Q => ∃ a F, Ex F H ∧ Den K F x a ∧ Rop K (g a lo hi) H F Q
def dSl (g : PyData → Option Int → Option Int → Option PyData) (f : Sls → Res PyData) (l u : Sls → Res (Option Int)) (ρ : Sls) : Res PyData := f ρ >>= fun x => l ρ >>= fun i => u ρ >>= fun j => ofO (g x i j)
theorem de_slice {g : PyData → Option Int → Option Int → Option PyData} {lo hi : Option Expr} {p2 : Pos} {l u : Sls → Res (Option Int)} (hr : SlR X (rS X.K g)) (he : DE X F0 H0 W e f) (hl : DO X F0 H0 W lo l) (hu : DO X F0 H0 W hi u) : DE X F0 H0 W (.Subscript e (.Slice lo hi none p2) pos) (dSl g f l u) := by
  refine PE.imp (pe_slice hr he hl hu) fun σ H Q ⟨ρ, F, sr, q⟩ => ?_
  obtain ⟨ρ1, F1, sr1, q1⟩ := rd_step (R := Den X.K) sr q
  refine ⟨ρ1, F1, sr1, q1.imp fun v H1 F2 d g1 r1 k => ?_⟩
  obtain ⟨a', F3, g3, r3, sr3, q3⟩ := k v H1 F2 (.refl g1.fh) r1
  obtain ⟨ρ4, F4, sr4, q4⟩ := rd_step (R := REq) sr3 q3
  refine ⟨ρ4, F4, sr4, q4.imp fun i H5 F5 b g5 r5 k5 => ?_⟩
  obtain ⟨b', F6, g6, rfl, sr6, q6⟩ := k5 i H5 F5 (.refl g5.fh) r5
  obtain ⟨ρ7, F7, sr7, q7⟩ := rd_step (R := REq) sr6 q6
  refine ⟨ρ7, F7, sr7, q7.imp fun j H8 F8 c g8 r8 k8 => ?_⟩
  obtain ⟨c', F9, g9, rfl, sr9, q9⟩ := k8 j H8 F8 (.refl g8.fh) r8
  exact ⟨a', F9, sr9.ex, (r3.mono g6.ff).mono g9.ff, q9.rop⟩
end
end DL

/-! DL3: operations on data. -/
namespace DL
open PySem PySem.Spec PyProof.Rows L2
section
variable {X : Cx}
theorem z24 {n : Nat} (h : n ≤ 16777216) : n ≤ sizeLine := by rw [line24]; exact h

/-! ### + -/
def addD : PyData → PyData → Option PyData
  | .int i, .int j => some (.int (i + j))
  | .str x, .str y => if x.length + y.length ≤ 16777216 then some (.str (x ++ y)) else none
  | .list x, .list y => if x.length + y.length ≤ 16777216 then some (.list (x ++ y)) else none
  | .tuple x, .tuple y => if x.length + y.length ≤ 16777216 then some (.tuple (x ++ y)) else none
  | _, _ => none
/-- list + list, whatever holds them -/
theorem op_catS : OpR X (binaryOp .Add) (fun x y H Q => ∃ l b xs ys, x = .ref l ∧ y = .ref b ∧ SqL X.K H l xs ∧ SqL X.K H b ys ∧ xs.length + ys.length ≤ sizeLine ∧ ∀ p, H p = none → Q (.ref p) (upd H p (.lst (xs ++ ys)))) := by
  intro pins s σ H x y v u Q I rx ry h
  obtain ⟨l, b, xs, ys, rfl, rfl, hH, hB, hz, q⟩ := h
  cases rx
  cases ry
  obtain ⟨its, r1, pl1, _⟩ := I.list hH
  obtain ⟨its2, r2, pl2, _⟩ := I.list hB
  obtain ⟨⟨cls, dd, data, sl⟩, ho, hc, n, hd⟩ := id pl1.isList
  obtain ⟨⟨cls2, dd2, data2, sl2⟩, ho2, hc2, n2, hd2⟩ := id pl2.isList
  simp only at hc hd hc2 hd2
  subst hc hd hc2 hd2
  have e : its.toArray ++ its2.toArray = (its ++ its2).toArray := by simp
  have hl1 := r1.length
  have hl2 := r2.length
  refine concat_meets ⟨_, ho, rfl⟩ ⟨_, ho2, rfl⟩ noFill_list_add seq_list_add PySem.F.slot_list_add PySem.F.entry_list_add (PySem.F.args_list_add_2 _ _) (list_addW l b its.toArray its2.toArray n n2 dd dd2 sl sl2 (by simp only [List.size_toArray]; omega)) ⟨ho, ho2, ?_⟩
  rw [e]
  exact ⟨.ref _, _, I.lnew (t' := s.toks) (r1.append r2) (by rw [List.length_append]; exact hz), rfl, q _ I.fresh⟩
theorem op_addD : OpR X (binaryOp .Add) (r2 X.K addD) := by
  intro pins s σ H x y v u Q I rx ry h
  obtain ⟨a, b, F, ex, da, db, q⟩ := h
  cases da with
  | int i =>
    cases db with
    | int j => exact op_add pins s σ H _ _ v u Q I rx ry ⟨i, j, rfl, rfl, q.val ex (.int _)⟩
    | _ => exact q.elim
  | str i =>
    cases db with
    | str j =>
      by_cases hz : i.length + j.length ≤ 16777216
      · simp only [addD, hz, if_true] at q
        exact op_add_str pins s σ H _ _ v u Q I rx ry ⟨i, j, rfl, rfl, z24 hz, q.val ex (.str _)⟩
      · simp only [addD, hz, if_false] at q
        exact q.elim
    | _ => exact q.elim
  | @lst l xs ds h1 h2 =>
    cases db with
    | @lst b ys es k1 k2 =>
      by_cases hz : ds.length + es.length ≤ 16777216
      · simp only [addD, hz, if_true] at q
        exact op_catS pins s σ H _ _ v u Q I rx ry ⟨l, b, xs, ys, rfl, rfl, ex.sl h1, ex.sl k1, by rw [h2.length, k2.length]; exact z24 hz, fun p hp => q.newL ex (h2.append k2) hp⟩
      · simp only [addD, hz, if_false] at q
        exact q.elim
    | _ => exact q.elim
  | @tup l xs ds h1 h2 =>
    cases db with
    | @tup b ys es k1 k2 =>
      by_cases hz : ds.length + es.length ≤ 16777216
      · simp only [addD, hz, if_true] at q
        refine op_catA pins s σ H _ _ v u Q I rx ry ⟨l, b, xs, ys, rfl, rfl, ex.st h1, ex.st k1, by rw [h2.length, k2.length]; exact z24 hz, fun e => ?_, fun e e2 => ?_, fun _ _ p hp => q.newT ex (h2.append k2) hp⟩
        · have : ds = [] := h2.nil_iff.mp e
          subst this
          exact q.val ex (.tup k1 k2)
        · have : es = [] := k2.nil_iff.mp e2
          subst this
          rw [List.append_nil] at q
          exact q.val ex (.tup h1 h2)
      · simp only [addD, hz, if_false] at q
        exact q.elim
    | _ => exact q.elim
  | _ => exact q.elim

/-! ### ints -/
def subD : PyData → PyData → Option PyData
  | .int i, .int j => some (.int (i - j))
  | _, _ => none
theorem op_subD : OpR X (binaryOp .Sub) (r2 X.K subD) := by
  intro pins s σ H x y v u Q I rx ry h
  obtain ⟨a, b, F, ex, da, db, q⟩ := h
  cases da with
  | int i =>
    cases db with
    | int j => exact op_sub pins s σ H _ _ v u Q I rx ry ⟨i, j, rfl, rfl, q.val ex (.int _)⟩
    | _ => exact q.elim
  | _ => exact q.elim
def mulOk (i j : Int) : Bool := decide (((-(2 ^ 64) < i ∧ i < 2 ^ 64) ∨ (-(2 ^ 64) < j ∧ j < 2 ^ 64)) ∨ i.natAbs.log2 + j.natAbs.log2 < 1000000)
def mulD : PyData → PyData → Option PyData
  | .int i, .int j => if mulOk i j = true then some (.int (i * j)) else none
  | _, _ => none
theorem op_mulD : OpR X (binaryOp .Mult) (r2 X.K mulD) := by
  intro pins s σ H x y v u Q I rx ry h
  obtain ⟨a, b, F, ex, da, db, q⟩ := h
  cases da with
  | int i =>
    cases db with
    | int j =>
      by_cases hz : mulOk i j = true
      · simp only [mulD, hz, if_true] at q
        rcases of_decide_eq_true hz with hz | hz
        · exact op_mul pins s σ H _ _ v u Q I rx ry ⟨i, j, rfl, rfl, hz, q.val ex (.int _)⟩
        · exact op_mulW pins s σ H _ _ v u Q I rx ry ⟨i, j, rfl, rfl, hz, q.val ex (.int _)⟩
      · simp only [mulD, hz] at q
        exact q.elim
    | _ => exact q.elim
  | _ => exact q.elim
/-- the divisor is not 0 and not huge -/
def divOk (j : Int) : Bool := decide (j ≠ 0 ∧ j.natAbs.log2 < 9000)
def fdivD : PyData → PyData → Option PyData
  | .int i, .int j => if divOk j = true then some (.int (i.fdiv j)) else none
  | _, _ => none
theorem op_fdivD : OpR X (binaryOp .FloorDiv) (r2 X.K fdivD) := by
  intro pins s σ H x y v u Q I rx ry h
  obtain ⟨a, b, F, ex, da, db, q⟩ := h
  cases da with
  | int i =>
    cases db with
    | int j =>
      by_cases hz : divOk j = true
      · simp only [fdivD, hz, if_true] at q
        obtain ⟨h0, h1⟩ := of_decide_eq_true hz
        exact (opI (C := fun _ j => j ≠ 0 ∧ j.natAbs.log2 < 9000) (g := fun i j => i.fdiv j) fun _ _ _ _ _ _ _ hc q => floordiv_int hc.1 q (.inl (PyProof.noPylong_of_log2 hc.2))) pins s σ H _ _ v u Q I rx ry ⟨i, j, rfl, rfl, ⟨h0, h1⟩, q.val ex (.int _)⟩
      · simp only [fdivD, hz] at q
        exact q.elim
    | _ => exact q.elim
  | _ => exact q.elim
def modD : PyData → PyData → Option PyData
  | .int i, .int j => if j = 0 then none else some (.int (i.fmod j))
  | _, _ => none
theorem op_modD : OpR X (binaryOp .Mod) (r2 X.K modD) := by
  intro pins s σ H x y v u Q I rx ry h
  obtain ⟨a, b, F, ex, da, db, q⟩ := h
  cases da with
  | int i =>
    cases db with
    | int j =>
      by_cases hz : j = 0
      · simp only [modD, hz, if_true] at q
        exact q.elim
      · simp only [modD, hz, if_false] at q
        exact op_modN pins s σ H _ _ v u Q I rx ry ⟨i, j, rfl, rfl, hz, q.val ex (.int _)⟩
    | _ => exact q.elim
  | _ => exact q.elim
def powD : PyData → PyData → Option PyData
  | .int i, .int j => if 0 ≤ j ∧ j ≤ 1000000 ∧ i.natAbs < 2 ^ 64 then some (.int (i ^ j.toNat)) else none
  | _, _ => none
theorem op_powD : OpR X (binaryOp .Pow) (r2 X.K powD) := by
  intro pins s σ H x y v u Q I rx ry h
  obtain ⟨a, b, F, ex, da, db, q⟩ := h
  cases da with
  | int i =>
    cases db with
    | int j =>
      by_cases hz : 0 ≤ j ∧ j ≤ 1000000 ∧ i.natAbs < 2 ^ 64
      · have q' : Rop X.K (if 0 ≤ j ∧ j ≤ 1000000 ∧ i.natAbs < 2 ^ 64 then some (.int (i ^ j.toNat)) else none) H F Q := q
        rw [if_pos hz] at q'
        exact op_pow pins s σ H _ _ v u Q I rx ry ⟨i, j, rfl, rfl, hz, q'.val ex (.int _)⟩
      · have q' : Rop X.K (if 0 ≤ j ∧ j ≤ 1000000 ∧ i.natAbs < 2 ^ 64 then some (.int (i ^ j.toNat)) else none) H F Q := q
        rw [if_neg hz] at q'
        exact q'.elim
    | _ => exact q.elim
  | _ => exact q.elim
def negD : PyData → Option PyData
  | .int i => some (.int (-i))
  | _ => none
theorem un_negD : UnR X (unaryOp .USub) (r1 X.K negD) := by
  intro pins s σ H x v Q I rx h
  obtain ⟨a, F, ex, da, q⟩ := h
  cases da with
  | int i => exact un_neg pins s σ H _ v Q I rx ⟨i, rfl, q.val ex (.int _)⟩
  | _ => exact q.elim

/-! ### == and != -/
def scalD : PyData → PyData → Bool
  | .none, .none => true | .none, .int _ => true | .int _, .none => true | .none, .bool _ => true | .bool _, .none => true | .none, .str _ => true | .str _, .none => true
  | .int _, .int _ => true | .bool _, .bool _ => true | .str _, .str _ => true
  | .int _, .str _ => true | .str _, .int _ => true | .bool _, .str _ => true | .str _, .bool _ => true
  | _, _ => false
def eqOk (a b : PyData) : Bool := scalD a b || (noDic a && noDic b && SeqAt.shaped a && SeqAt.shaped b)
def eqD (a b : PyData) : Option PyData := if eqOk a b = true then some (.bool (PyData.eqv a b)) else none
def neD (a b : PyData) : Option PyData := if eqOk a b = true then some (.bool (!PyData.eqv a b)) else none
theorem scal_eqv {K : PySem.W.Frag} {F : Hp} {x y : V} {a b : PyData} (da : Den K F x a) (db : Den K F y b) (h : scalD a b = true) : scal x y = true ∧ decide (x = y) = PyData.eqv a b := by
  cases da <;> cases db <;> first
    | exact absurd h Bool.false_ne_true
    | (refine ⟨rfl, ?_⟩; simp only [PyData.eqv]; first | exact dec_int | exact dec_bl | exact dec_str)
    | (refine ⟨rfl, ?_⟩; simp [PyData.eqv])
theorem op_eqV (hu : X.A.units + 64 < cLine) : OpR X (compareOp .Eq) (r2 X.K eqD) := by
  intro pins s σ H x y v u Q I rx ry h
  obtain ⟨a, b, F, ex, da, db, q⟩ := h
  unfold eqD at q
  by_cases hz : eqOk a b = true
  · rw [if_pos hz] at q
    have q2 := q.val ex (.bl _)
    rcases Bool.or_eq_true _ _ |>.mp hz with hz | hz
    · obtain ⟨h1, h2⟩ := scal_eqv da db hz
      exact L2.op_eq pins s σ H _ _ v u Q I rx ry ⟨h1, by rw [h2]; exact q2⟩
    · simp only [Bool.and_eq_true] at hz
      exact op_eqD hu pins s σ H _ _ v u Q I rx ry ⟨a, b, (da.mono ex).dp hz.1.1.1, (db.mono ex).dp hz.1.1.2, hz.1.2, hz.2, q2⟩
  · rw [if_neg hz] at q
    exact q.elim
theorem op_neV (hu : X.A.units + 64 < cLine) : OpR X (compareOp .NotEq) (r2 X.K neD) := by
  intro pins s σ H x y v u Q I rx ry h
  obtain ⟨a, b, F, ex, da, db, q⟩ := h
  unfold neD at q
  by_cases hz : eqOk a b = true
  · rw [if_pos hz] at q
    have q2 := q.val ex (.bl _)
    rcases Bool.or_eq_true _ _ |>.mp hz with hz | hz
    · obtain ⟨h1, h2⟩ := scal_eqv da db hz
      exact L2.op_ne pins s σ H _ _ v u Q I rx ry ⟨h1, by rw [h2]; exact q2⟩
    · simp only [Bool.and_eq_true] at hz
      exact op_neD hu pins s σ H _ _ v u Q I rx ry ⟨a, b, (da.mono ex).dp hz.1.1.1, (db.mono ex).dp hz.1.1.2, hz.1.2, hz.2, q2⟩
  · rw [if_neg hz] at q
    exact q.elim
/-- is None, is not None -/
def isD (a b : PyData) : Option PyData := match b with
  | .none => some (.bool (match a with | .none => true | _ => false))
  | _ => none
def isNotD (a b : PyData) : Option PyData := match b with
  | .none => some (.bool (match a with | .none => false | _ => true))
  | _ => none
theorem op_isD : OpR X (compareOp .Is) (r2 X.K isD) := by
  intro pins s σ H x y v u Q I rx ry h
  obtain ⟨a, b, F, ex, da, db, q⟩ := h
  cases db with
  | non =>
    refine op_isN pins s σ H _ _ v u Q I rx ry ⟨rfl, ?_⟩
    cases da <;> exact q.val ex (.bl _)
  | _ => exact q.elim
theorem op_isNotD : OpR X (compareOp .IsNot) (r2 X.K isNotD) := by
  intro pins s σ H x y v u Q I rx ry h
  obtain ⟨a, b, F, ex, da, db, q⟩ := h
  cases db with
  | non =>
    refine op_notN pins s σ H _ _ v u Q I rx ry ⟨rfl, ?_⟩
    cases da <;> exact q.val ex (.bl _)
  | _ => exact q.elim

/-! ### order -/
def ltD : PyData → PyData → Option PyData
  | .int i, .int j => some (.bool (decide (i < j)))
  | .str x, .str y => some (.bool (decide (x.cps.toList < y.cps.toList)))
  | .bool x, .bool y => some (.bool (decide (b2i x < b2i y)))
  | _, _ => none
def leD : PyData → PyData → Option PyData
  | .int i, .int j => some (.bool (decide (i ≤ j)))
  | .str x, .str y => some (.bool (!decide (y.cps.toList < x.cps.toList)))
  | .bool x, .bool y => some (.bool (decide (b2i x ≤ b2i y)))
  | _, _ => none
def gtD : PyData → PyData → Option PyData
  | .int i, .int j => some (.bool (decide (j < i)))
  | .str x, .str y => some (.bool (decide (y.cps.toList < x.cps.toList)))
  | .bool x, .bool y => some (.bool (decide (b2i y < b2i x)))
  | _, _ => none
def geD : PyData → PyData → Option PyData
  | .int i, .int j => some (.bool (decide (j ≤ i)))
  | .str x, .str y => some (.bool (!decide (x.cps.toList < y.cps.toList)))
  | .bool x, .bool y => some (.bool (decide (b2i y ≤ b2i x)))
  | _, _ => none
theorem op_ltD : OpR X (compareOp .Lt) (r2 X.K ltD) := by
  intro pins s σ H x y v u Q I rx ry h
  obtain ⟨a, b, F, ex, da, db, q⟩ := h
  cases da with
  | int i =>
    cases db with
    | int j => exact op_lt pins s σ H _ _ v u Q I rx ry ⟨i, j, rfl, rfl, q.val ex (.bl _)⟩
    | _ => exact q.elim
  | str i =>
    cases db with
    | str j => exact op_lt_str pins s σ H _ _ v u Q I rx ry ⟨i, j, rfl, rfl, q.val ex (.bl _)⟩
    | _ => exact q.elim
  | bl i =>
    cases db with
    | bl j => cases rx; cases ry; exact lt_bool (fin_bl I (q.val ex (.bl _)) rfl)
    | _ => exact q.elim
  | _ => exact q.elim
theorem op_leD : OpR X (compareOp .LtE) (r2 X.K leD) := by
  intro pins s σ H x y v u Q I rx ry h
  obtain ⟨a, b, F, ex, da, db, q⟩ := h
  cases da with
  | int i =>
    cases db with
    | int j => exact op_le pins s σ H _ _ v u Q I rx ry ⟨i, j, rfl, rfl, q.val ex (.bl _)⟩
    | _ => exact q.elim
  | str i =>
    cases db with
    | str j => exact op_le_str pins s σ H _ _ v u Q I rx ry ⟨i, j, rfl, rfl, q.val ex (.bl _)⟩
    | _ => exact q.elim
  | bl i =>
    cases db with
    | bl j => cases rx; cases ry; exact le_bool (fin_bl I (q.val ex (.bl _)) rfl)
    | _ => exact q.elim
  | _ => exact q.elim
theorem op_gtD : OpR X (compareOp .Gt) (r2 X.K gtD) := by
  intro pins s σ H x y v u Q I rx ry h
  obtain ⟨a, b, F, ex, da, db, q⟩ := h
  cases da with
  | int i =>
    cases db with
    | int j => exact op_gt pins s σ H _ _ v u Q I rx ry ⟨i, j, rfl, rfl, q.val ex (.bl _)⟩
    | _ => exact q.elim
  | str i =>
    cases db with
    | str j => exact op_gt_str pins s σ H _ _ v u Q I rx ry ⟨i, j, rfl, rfl, q.val ex (.bl _)⟩
    | _ => exact q.elim
  | bl i =>
    cases db with
    | bl j => cases rx; cases ry; exact gt_bool (fin_bl I (q.val ex (.bl _)) rfl)
    | _ => exact q.elim
  | _ => exact q.elim
theorem op_geD : OpR X (compareOp .GtE) (r2 X.K geD) := by
  intro pins s σ H x y v u Q I rx ry h
  obtain ⟨a, b, F, ex, da, db, q⟩ := h
  cases da with
  | int i =>
    cases db with
    | int j => exact op_ge pins s σ H _ _ v u Q I rx ry ⟨i, j, rfl, rfl, q.val ex (.bl _)⟩
    | _ => exact q.elim
  | str i =>
    cases db with
    | str j => exact op_ge_str pins s σ H _ _ v u Q I rx ry ⟨i, j, rfl, rfl, q.val ex (.bl _)⟩
    | _ => exact q.elim
  | bl i =>
    cases db with
    | bl j => cases rx; cases ry; exact ge_bool (fin_bl I (q.val ex (.bl _)) rfl)
    | _ => exact q.elim
  | _ => exact q.elim

/-! ### in, not in -/
def seqOf : PyData → Option (List PyData)
  | .list ds => some ds
  | .tuple ds => some ds
  | _ => none
def hasD (x : PyData) (ds : List PyData) : Bool := ds.any fun y => PyData.eqv y x
def inD (x y : PyData) : Option PyData := match y with
  | .list ds => if flatD x = true ∧ ds.all flatD = true then some (.bool (hasD x ds)) else none
  | .tuple ds => if flatD x = true ∧ ds.all flatD = true then some (.bool (hasD x ds)) else none
  | .str z => match x with
    | .str w => some (.bool (!(Builtin.Str.occurrences z w 0 z.length 1).isEmpty))
    | _ => none
  | _ => none
def notInD (x y : PyData) : Option PyData := match y with
  | .list ds => if flatD x = true ∧ ds.all flatD = true then some (.bool (!hasD x ds)) else none
  | .tuple ds => if flatD x = true ∧ ds.all flatD = true then some (.bool (!hasD x ds)) else none
  | .str z => match x with
    | .str w => some (.bool (!(!(Builtin.Str.occurrences z w 0 z.length 1).isEmpty)))
    | _ => none
  | _ => none
theorem eqV_eqv {K : PySem.W.Frag} {F : Hp} {x y : V} {a b : PyData} (da : Den K F x a) (db : Den K F y b) (fa : flatD a = true) (fb : flatD b = true) : eqV x y = PyData.eqv a b := by
  cases da <;> first | (cases fa; done) | skip
  all_goals (cases db <;> first | (cases fb; done) | (simp [eqV, PyData.eqv]; done) | skip)
theorem inV_has {K : PySem.W.Frag} {F : Hp} {x : V} {a : PyData} (da : Den K F x a) (fa : flatD a = true) : ∀ {xs : List V} {ds : List PyData}, Dens K F xs ds → ds.all flatD = true → inV x xs = hasD a ds
  | _, _, .nil, _ => rfl
  | _, _, .cons h q, f => by
    rw [List.all_cons, Bool.and_eq_true] at f
    have ih := inV_has da fa q f.2
    unfold inV hasD at ih ⊢
    rw [List.any_cons, List.any_cons, ih, eqV_eqv h da f.1 fa]
theorem op_inV : OpR X (compareOp .In) (r2 X.K inD) := by
  intro pins s σ H x y v u Q I rx ry h
  obtain ⟨a, b, F, ex, da, db, q⟩ := h
  cases db with
  | @lst l xs ds h1 h2 =>
    by_cases hz : flatD a = true ∧ ds.all flatD = true
    · have q' : Rop X.K (if flatD a = true ∧ ds.all flatD = true then some (.bool (hasD a ds)) else none) H F Q := q
      rw [if_pos hz] at q'
      refine op_in_seq pins s σ H _ _ v u Q I rx ry ⟨l, xs, rfl, .inl (ex.sl h1), da.flatV hz.1, h2.flatV hz.2, ?_⟩
      rw [if_neg Bool.false_ne_true, inV_has da hz.1 h2 hz.2]
      exact q'.val ex (.bl _)
    · have q' : Rop X.K (if flatD a = true ∧ ds.all flatD = true then some (.bool (hasD a ds)) else none) H F Q := q
      rw [if_neg hz] at q'
      exact q'.elim
  | @tup l xs ds h1 h2 =>
    by_cases hz : flatD a = true ∧ ds.all flatD = true
    · have q' : Rop X.K (if flatD a = true ∧ ds.all flatD = true then some (.bool (hasD a ds)) else none) H F Q := q
      rw [if_pos hz] at q'
      refine op_in_seq pins s σ H _ _ v u Q I rx ry ⟨l, xs, rfl, .inr (ex.st h1), da.flatV hz.1, h2.flatV hz.2, ?_⟩
      rw [if_neg Bool.false_ne_true, inV_has da hz.1 h2 hz.2]
      exact q'.val ex (.bl _)
    · have q' : Rop X.K (if flatD a = true ∧ ds.all flatD = true then some (.bool (hasD a ds)) else none) H F Q := q
      rw [if_neg hz] at q'
      exact q'.elim
  | str z =>
    cases da with
    | str w => exact op_in_str pins s σ H _ _ v u Q I rx ry ⟨w, z, rfl, rfl, q.val ex (.bl _)⟩
    | _ => exact q.elim
  | _ => exact q.elim
theorem op_notInV : OpR X (compareOp .NotIn) (r2 X.K notInD) := by
  intro pins s σ H x y v u Q I rx ry h
  obtain ⟨a, b, F, ex, da, db, q⟩ := h
  cases db with
  | @lst l xs ds h1 h2 =>
    by_cases hz : flatD a = true ∧ ds.all flatD = true
    · have q' : Rop X.K (if flatD a = true ∧ ds.all flatD = true then some (.bool (!hasD a ds)) else none) H F Q := q
      rw [if_pos hz] at q'
      refine op_notIn_seq pins s σ H _ _ v u Q I rx ry ⟨l, xs, rfl, .inl (ex.sl h1), da.flatV hz.1, h2.flatV hz.2, ?_⟩
      rw [if_pos rfl, inV_has da hz.1 h2 hz.2]
      exact q'.val ex (.bl _)
    · have q' : Rop X.K (if flatD a = true ∧ ds.all flatD = true then some (.bool (!hasD a ds)) else none) H F Q := q
      rw [if_neg hz] at q'
      exact q'.elim
  | @tup l xs ds h1 h2 =>
    by_cases hz : flatD a = true ∧ ds.all flatD = true
    · have q' : Rop X.K (if flatD a = true ∧ ds.all flatD = true then some (.bool (!hasD a ds)) else none) H F Q := q
      rw [if_pos hz] at q'
      refine op_notIn_seq pins s σ H _ _ v u Q I rx ry ⟨l, xs, rfl, .inr (ex.st h1), da.flatV hz.1, h2.flatV hz.2, ?_⟩
      rw [if_pos rfl, inV_has da hz.1 h2 hz.2]
      exact q'.val ex (.bl _)
    · have q' : Rop X.K (if flatD a = true ∧ ds.all flatD = true then some (.bool (!hasD a ds)) else none) H F Q := q
      rw [if_neg hz] at q'
      exact q'.elim
  | str z =>
    cases da with
    | str w => exact op_notin_str pins s σ H _ _ v u Q I rx ry ⟨w, z, rfl, rfl, q.val ex (.bl _)⟩
    | _ => exact q.elim
  | _ => exact q.elim

/-! ### a[i] -/
def ixD (a b : PyData) : Option PyData := match a, b with
  | .list ds, .int i => atI ds i
  | .tuple ds, .int i => atI ds i
  | .str z, .int i => if z.length ≤ 16777216 then (atI z.cps.toList i).map fun c => .str ⟨#[c]⟩ else none
  | _, _ => none
theorem atI_dens {K : PySem.W.Frag} {F : Hp} {xs : List V} {ds : List PyData} (h : Dens K F xs ds) {i : Int} {d : PyData} (e : atI ds i = some d) : ∃ v, atI xs i = some v ∧ Den K F v d := by
  unfold atI at e ⊢
  rw [h.length]
  cases q : ixN ds.length i with
  | none => rw [q] at e; cases e
  | some j =>
    rw [q] at e
    exact h.get e
theorem ix_D : IxR X (r2 X.K ixD) := by
  intro value slice pins s σ H x y v u Q I rx ry h hs
  obtain ⟨a, b, F, ex, da, db, q⟩ := h
  cases db with
  | int i =>
    cases da with
    | @lst l xs ds h1 h2 =>
      cases e : atI ds i with
      | none => simp only [ixD, e] at q; exact q.elim
      | some d =>
        simp only [ixD, e] at q
        obtain ⟨w, e2, dw⟩ := atI_dens h2 e
        exact ix_list value slice pins s σ H _ _ v u Q I rx ry ⟨l, xs, i, w, rfl, rfl, ex.sl h1, e2, q.val ex dw⟩ hs
    | @tup l xs ds h1 h2 =>
      cases e : atI ds i with
      | none => simp only [ixD, e] at q; exact q.elim
      | some d =>
        simp only [ixD, e] at q
        obtain ⟨w, e2, dw⟩ := atI_dens h2 e
        exact ix_tup value slice pins s σ H _ _ v u Q I rx ry ⟨l, xs, i, w, rfl, rfl, ex.st h1, e2, q.val ex dw⟩ hs
    | str z =>
      by_cases hz : z.length ≤ 16777216
      · cases e : atI z.cps.toList i with
        | none => simp only [ixD, hz, e, if_true, Option.map_none] at q; exact q.elim
        | some c =>
          simp only [ixD, hz, e, if_true, Option.map_some] at q
          exact ix_str value slice pins s σ H _ _ v u Q I rx ry ⟨z, i, c, rfl, rfl, z24 hz, e, q.val ex (.str _)⟩ hs
      · simp only [ixD, hz, if_false] at q; exact q.elim
    | _ => exact q.elim
  | _ => cases da <;> exact q.elim

/-! ### slices -/
def cutD (xs : List PyData) (lo hi : Option Int) : List PyData := (xs.drop (HT.sIx xs.length 0 lo)).take (HT.sIx xs.length xs.length hi - HT.sIx xs.length 0 lo)
def slD (a : PyData) (lo hi : Option Int) : Option PyData := match a with
  | .list ds => some (.list (cutD ds lo hi))
  | .tuple ds => some (.tuple (cutD ds lo hi))
  | .str z => if z.length ≤ 16777216 then some (.str (cutS z lo hi)) else none
  | _ => none
theorem cut_dens {K : PySem.W.Frag} {F : Hp} {xs : List V} {ds : List PyData} (h : Dens K F xs ds) (lo hi : Option Int) : Dens K F (cutV xs lo hi) (cutD ds lo hi) := by
  unfold cutV cutD
  rw [h.length]
  exact (h.drop _).take _
theorem cut_whole (ds : List PyData) (lo hi : Option Int) (h : HT.sIx ds.length 0 lo = 0 ∧ HT.sIx ds.length ds.length hi = ds.length) : cutD ds lo hi = ds := by
  unfold cutD
  rw [h.1, h.2]
  simp
theorem sl_D : SlR X (rS X.K slD) := by
  intro pins s σ H x v vl vu lo hi sl Q I rx hs pl pu h
  obtain ⟨a, F, ex, da, q⟩ := h
  cases da with
  | @lst l xs ds h1 h2 =>
    exact sl_list pins s σ H _ v vl vu lo hi sl Q I rx hs pl pu ⟨l, xs, rfl, ex.sl h1, fun p hp => q.newL ex (cut_dens h2 lo hi) hp⟩
  | @tup l xs ds h1 h2 =>
    refine sl_tupA pins s σ H _ v vl vu lo hi sl Q I rx hs pl pu ⟨l, xs, rfl, ex.st h1, fun hw => ?_, fun _ p hp => q.newT ex (cut_dens h2 lo hi) hp⟩
    rw [h2.length] at hw
    have q' : Rop X.K (some (.tuple (cutD ds lo hi))) H F Q := q
    rw [cut_whole ds lo hi hw] at q'
    exact q'.val ex (.tup h1 h2)
  | str z =>
    by_cases hz : z.length ≤ 16777216
    · simp only [slD, hz, if_true] at q
      exact sl_str pins s σ H _ v vl vu lo hi sl Q I rx hs pl pu ⟨z, rfl, z24 hz, q.val ex (.str _)⟩
    · simp only [slD, hz, if_false] at q
      exact q.elim
  | _ => exact q.elim

/-! ### built-ins -/
def lenD : List PyData → Option PyData
  | [.str z] => if z.length ≤ 16777216 then some (.int z.length) else none
  | [.list ds] => some (.int ds.length)
  | [.tuple ds] => some (.int ds.length)
  | _ => none
theorem call_lenV : CallR X (.builtin "len") (rL X.K lenD) := by
  intro pins s σ H xs us Q I r h
  obtain ⟨as, F, ex, da, q⟩ := h
  cases da with
  | nil => exact q.elim
  | cons d1 d2 =>
    cases d2 with
    | cons _ _ => cases d1 <;> exact q.elim
    | nil =>
      cases d1 with
      | str z =>
        by_cases hz : z.length ≤ 16777216
        · simp only [lenD, hz, if_true] at q
          exact call_len_str pins s σ H _ us Q I r ⟨z, rfl, z24 hz, q.val ex (.int _)⟩
        · simp only [lenD, hz, if_false] at q
          exact q.elim
      | @lst l xs ds h1 h2 =>
        refine call_len_seq pins s σ H _ us Q I r ⟨l, xs, rfl, .inl (ex.sl h1), ?_⟩
        rw [h2.length]
        exact q.val ex (.int _)
      | @tup l xs ds h1 h2 =>
        refine call_len_seq pins s σ H _ us Q I r ⟨l, xs, rfl, .inr (ex.st h1), ?_⟩
        rw [h2.length]
        exact q.val ex (.int _)
      | _ => exact q.elim
def absD : List PyData → Option PyData
  | [.int i] => some (.int (if i < 0 then -i else i))
  | _ => none
theorem call_absV : CallR X (.builtin "abs") (rL X.K absD) := by
  intro pins s σ H xs us Q I r h
  obtain ⟨as, F, ex, da, q⟩ := h
  cases da with
  | nil => exact q.elim
  | cons d1 d2 =>
    cases d2 with
    | cons _ _ => cases d1 <;> exact q.elim
    | nil =>
      cases d1 with
      | int i => exact call_abs pins s σ H _ us Q I r ⟨i, rfl, q.val ex (.int _)⟩
      | _ => exact q.elim
def intD : List PyData → Option PyData
  | [.int i] => some (.int i)
  | [.bool b] => some (.int (if b = true then 1 else 0))
  | _ => none
theorem call_intV : CallR X (.type "int") (rL X.K intD) := by
  intro pins s σ H xs us Q I r h
  obtain ⟨as, F, ex, da, q⟩ := h
  cases da with
  | nil => exact q.elim
  | cons d1 d2 =>
    cases d2 with
    | cons _ _ => cases d1 <;> exact q.elim
    | nil =>
      cases d1 with
      | int i => exact call_int1 pins s σ H _ us Q I r (.inl ⟨i, rfl, q.val ex (.int _)⟩)
      | bl b => exact call_int1 pins s σ H _ us Q I r (.inr ⟨b, rfl, q.val ex (.int _)⟩)
      | _ => exact q.elim
def ordD : List PyData → Option PyData
  | [.str x] => if x.length = 1 then some (.int (x.cps.getD 0 0 : Nat)) else none
  | _ => none
theorem call_ordV : CallR X (.builtin "ord") (rL X.K ordD) := by
  intro pins s σ H xs us Q I r h
  obtain ⟨as, F, ex, da, q⟩ := h
  cases da with
  | nil => exact q.elim
  | cons d1 d2 =>
    cases d2 with
    | cons _ _ => cases d1 <;> exact q.elim
    | nil =>
      cases d1 with
      | str x =>
        by_cases hz : x.length = 1
        · simp only [ordD, hz, if_true] at q
          exact call_ord pins s σ H _ us Q I r ⟨x, rfl, hz, q.val ex (.int _)⟩
        · simp only [ordD, hz, if_false] at q
          exact q.elim
      | _ => exact q.elim
def maxD : List PyData → Option PyData
  | [.int i, .int j] => some (.int (if j > i then j else i))
  | _ => none
def minD : List PyData → Option PyData
  | [.int i, .int j] => some (.int (if j < i then j else i))
  | _ => none
theorem call_max2V (hc : X.calm = true) : CallR X (.builtin "max") (rL X.K maxD) := by
  intro pins s σ H xs us Q I r h
  obtain ⟨as, F, ex, da, q⟩ := h
  cases da with
  | nil => exact q.elim
  | cons d1 d2 =>
    cases d2 with
    | nil => cases d1 <;> exact q.elim
    | cons d3 d4 =>
      cases d4 with
      | cons _ _ => cases d1 <;> cases d3 <;> exact q.elim
      | nil =>
        cases d1 with
        | int i =>
          cases d3 with
          | int j => exact call_max2 hc pins s σ H _ us Q I r ⟨i, j, rfl, q.val ex (.int _)⟩
          | _ => exact q.elim
        | _ => cases d3 <;> exact q.elim
theorem call_min2V (hc : X.calm = true) : CallR X (.builtin "min") (rL X.K minD) := by
  intro pins s σ H xs us Q I r h
  obtain ⟨as, F, ex, da, q⟩ := h
  cases da with
  | nil => exact q.elim
  | cons d1 d2 =>
    cases d2 with
    | nil => cases d1 <;> exact q.elim
    | cons d3 d4 =>
      cases d4 with
      | cons _ _ => cases d1 <;> cases d3 <;> exact q.elim
      | nil =>
        cases d1 with
        | int i =>
          cases d3 with
          | int j => exact call_min2 hc pins s σ H _ us Q I r ⟨i, j, rfl, q.val ex (.int _)⟩
          | _ => exact q.elim
        | _ => cases d3 <;> exact q.elim
/-- tuple(x) -/
def tupleD : List PyData → Option PyData
  | [.list ds] => some (.tuple ds)
  | [.tuple ds] => some (.tuple ds)
  | _ => none
theorem call_tupleV : CallR X (.type "tuple") (rL X.K tupleD) := by
  intro pins s σ H xs us Q I r h
  obtain ⟨as, F, ex, da, q⟩ := h
  cases da with
  | nil => exact q.elim
  | cons d1 d2 =>
    cases d2 with
    | cons _ _ => cases d1 <;> exact q.elim
    | nil =>
      cases d1 with
      | @lst l xs ds h1 h2 => exact call_tuple_of pins s σ H _ us Q I r ⟨l, xs, rfl, .inl ⟨ex.sl h1, fun p hp => q.newT ex h2 hp⟩⟩
      | @tup l xs ds h1 h2 => exact call_tuple_of pins s σ H _ us Q I r ⟨l, xs, rfl, .inr ⟨ex.st h1, q.val ex (.tup h1 h2)⟩⟩
      | _ => exact q.elim
/-- list(x) as data -/
def listD : List PyData → Option PyData
  | [.list ds] => some (.list ds)
  | [.tuple ds] => some (.list ds)
  | _ => none
theorem call_listV : CallR X (.type "list") (rL X.K listD) := by
  intro pins s σ H xs us Q I r h
  obtain ⟨as, F, ex, da, q⟩ := h
  cases da with
  | nil => exact q.elim
  | cons d1 d2 =>
    cases d2 with
    | cons _ _ => cases d1 <;> exact q.elim
    | nil =>
      cases d1 with
      | @lst l xs ds h1 h2 => exact call_list_of pins s σ H _ us Q I r ⟨l, xs, rfl, .inl (ex.sl h1), fun p hp => q.newL ex h2 hp⟩
      | @tup l xs ds h1 h2 => exact call_list_of pins s σ H _ us Q I r ⟨l, xs, rfl, .inr (ex.st h1), fun p hp => q.newL ex h2 hp⟩
      | _ => exact q.elim
def strD : List PyData → Option PyData
  | [.int i] => if i.natAbs.log2 < 1920 then some (.str (toString i)) else none
  | _ => none
theorem call_strV : CallR X (.type "str") (rL X.K strD) := by
  intro pins s σ H xs us Q I r h
  obtain ⟨as, F, ex, da, q⟩ := h
  cases da with
  | nil => exact q.elim
  | cons d1 d2 =>
    cases d2 with
    | cons _ _ => cases d1 <;> exact q.elim
    | nil =>
      cases d1 with
      | int i =>
        by_cases hz : i.natAbs.log2 < 1920
        · simp only [strD, hz, if_true] at q
          exact call_str_int pins s σ H _ us Q I r ⟨i, rfl, hz, q.val ex (.str _)⟩
        · simp only [strD, hz, if_false] at q
          exact q.elim
      | _ => exact q.elim

/-! ### isinstance -/
def IsiOk (tn : String) (g : PyData → Bool) : Prop := ∀ d, kitB (tyOf d) tn = some (g d)
def isInt : PyData → Bool
  | .bool _ => true
  | .int _ => true
  | _ => false
theorem isi_int : IsiOk "int" isInt
  | .none => (show kitB "NoneType" "int" = some false by decide +kernel)
  | .bool _ => (show kitB "bool" "int" = some true by decide +kernel)
  | .int _ => (show kitB "int" "int" = some true by decide +kernel)
  | .str _ => (show kitB "str" "int" = some false by decide +kernel)
  | .list _ => (show kitB "list" "int" = some false by decide +kernel)
  | .tuple _ => (show kitB "tuple" "int" = some false by decide +kernel)
  | .dict _ => (show kitB "dict" "int" = some false by decide +kernel)
def isBool : PyData → Bool
  | .bool _ => true
  | _ => false
theorem isi_bool : IsiOk "bool" isBool
  | .none => (show kitB "NoneType" "bool" = some false by decide +kernel)
  | .bool _ => (show kitB "bool" "bool" = some true by decide +kernel)
  | .int _ => (show kitB "int" "bool" = some false by decide +kernel)
  | .str _ => (show kitB "str" "bool" = some false by decide +kernel)
  | .list _ => (show kitB "list" "bool" = some false by decide +kernel)
  | .tuple _ => (show kitB "tuple" "bool" = some false by decide +kernel)
  | .dict _ => (show kitB "dict" "bool" = some false by decide +kernel)
def isStr : PyData → Bool
  | .str _ => true
  | _ => false
theorem isi_str : IsiOk "str" isStr
  | .none => (show kitB "NoneType" "str" = some false by decide +kernel)
  | .bool _ => (show kitB "bool" "str" = some false by decide +kernel)
  | .int _ => (show kitB "int" "str" = some false by decide +kernel)
  | .str _ => (show kitB "str" "str" = some true by decide +kernel)
  | .list _ => (show kitB "list" "str" = some false by decide +kernel)
  | .tuple _ => (show kitB "tuple" "str" = some false by decide +kernel)
  | .dict _ => (show kitB "dict" "str" = some false by decide +kernel)
def isList : PyData → Bool
  | .list _ => true
  | _ => false
theorem isi_list : IsiOk "list" isList
  | .none => (show kitB "NoneType" "list" = some false by decide +kernel)
  | .bool _ => (show kitB "bool" "list" = some false by decide +kernel)
  | .int _ => (show kitB "int" "list" = some false by decide +kernel)
  | .str _ => (show kitB "str" "list" = some false by decide +kernel)
  | .list _ => (show kitB "list" "list" = some true by decide +kernel)
  | .tuple _ => (show kitB "tuple" "list" = some false by decide +kernel)
  | .dict _ => (show kitB "dict" "list" = some false by decide +kernel)
def isTuple : PyData → Bool
  | .tuple _ => true
  | _ => false
theorem isi_tuple : IsiOk "tuple" isTuple
  | .none => (show kitB "NoneType" "tuple" = some false by decide +kernel)
  | .bool _ => (show kitB "bool" "tuple" = some false by decide +kernel)
  | .int _ => (show kitB "int" "tuple" = some false by decide +kernel)
  | .str _ => (show kitB "str" "tuple" = some false by decide +kernel)
  | .list _ => (show kitB "list" "tuple" = some false by decide +kernel)
  | .tuple _ => (show kitB "tuple" "tuple" = some true by decide +kernel)
  | .dict _ => (show kitB "dict" "tuple" = some false by decide +kernel)
def isDict : PyData → Bool
  | .dict _ => true
  | _ => false
theorem isi_dict : IsiOk "dict" isDict
  | .none => (show kitB "NoneType" "dict" = some false by decide +kernel)
  | .bool _ => (show kitB "bool" "dict" = some false by decide +kernel)
  | .int _ => (show kitB "int" "dict" = some false by decide +kernel)
  | .str _ => (show kitB "str" "dict" = some false by decide +kernel)
  | .list _ => (show kitB "list" "dict" = some false by decide +kernel)
  | .tuple _ => (show kitB "tuple" "dict" = some false by decide +kernel)
  | .dict _ => (show kitB "dict" "dict" = some true by decide +kernel)
end
section
variable {X : Cx} {F0 H0 : Hp} {W : WX} {pos : Pos} {a : Expr} {f : Sls → Res PyData}
theorem de_isi {p p2 : Pos} {x tx : Str} {tn : String} {g : PyData → Bool} (hk : IsiOk tn g) (hg : Gl X x) (hm : X.mg x = none) (hv : bootBuiltins x = some (.builtin "isinstance")) (gt : Gl X tx) (mt : X.mg tx = none) (vt : bootBuiltins tx = some (.type tn)) (ha : DE X F0 H0 W a f) (hn : x ≠ "__name__" := by decide) (hdb : (x == ("__debug__" : Str)) = false := by decide)
    (hn2 : tx ≠ "__name__" := by decide) (hdb2 : (tx == ("__debug__" : Str)) = false := by decide)
    (h1 : starEach [.Name tx p2] X.env = (false, eval (.Name tx p2) X.env) :: starEach [] X.env := by rfl)
    (he : starEach [a, .Name tx p2] X.env = (false, eval a X.env) :: starEach [.Name tx p2] X.env := by rfl) (hpl : (backTo pos (starEach [.Name tx p2] X.env)).any (·.1) = false := by rfl) :
    DE X F0 H0 W (.Call (.Name x p) [a, .Name tx p2] [] pos) (d1 (fun d => some (.bool (g d))) f) := by
  refine PE.imp (pe_callB call_isi hg hm hv (pa_cons ha (pa_cons (pe_bltn (v := .ty tn) gt mt vt rfl hn2 hdb2) pa_nil h1) he) hn hdb he hpl) fun σ H Q ⟨ρ, F, sr, q⟩ => ?_
  obtain ⟨ρ1, F1, sr1, q1⟩ := rd_step (R := Den X.K) sr q
  refine ⟨ρ1, F1, sr1, q1.imp fun v H1 F2 d g1 r1 k => ?_⟩
  obtain ⟨a', F3, g3, r3, sr3, q3⟩ := k v H1 F2 (.refl g1.fh) r1
  exact ⟨v, .ty tn, .type (tyOf a'), .type tn, g a', rfl, .ty tn, r3.tyx sr3.ex, kit_ty (hk a'), q3 _ H1 F3 (.refl sr3.ex) (.bl _)⟩
theorem de_isi2 {p p2 p3 p4 : Pos} {x tx ty : Str} {k : Nat} {tn tm : String} {g g' : PyData → Bool} (hk : IsiOk tn g) (hk2 : IsiOk tm g') (hg : Gl X x) (hm : X.mg x = none) (hv : bootBuiltins x = some (.builtin "isinstance")) (gt : Gl X tx) (mt : X.mg tx = none) (vt : bootBuiltins tx = some (.type tn))
    (gt2 : Gl X ty) (mt2 : X.mg ty = none) (vt2 : bootBuiltins ty = some (.type tm)) (ha : DE X F0 H0 W a f) (hn : x ≠ "__name__" := by decide) (hdb : (x == ("__debug__" : Str)) = false := by decide)
    (hn2 : tx ≠ "__name__" := by decide) (hdb2 : (tx == ("__debug__" : Str)) = false := by decide) (hn3 : ty ≠ "__name__" := by decide) (hdb3 : (ty == ("__debug__" : Str)) = false := by decide)
    (h1 : starEach [.Tuple [.Name tx p2, .Name ty p3] k p4] X.env = (false, eval (.Tuple [.Name tx p2, .Name ty p3] k p4) X.env) :: starEach [] X.env := by rfl)
    (h2 : starEach [.Name tx p2, .Name ty p3] X.env = (false, eval (.Name tx p2) X.env) :: starEach [.Name ty p3] X.env := by rfl)
    (h3 : starEach [.Name ty p3] X.env = (false, eval (.Name ty p3) X.env) :: starEach [] X.env := by rfl)
    (he : starEach [a, .Tuple [.Name tx p2, .Name ty p3] k p4] X.env = (false, eval a X.env) :: starEach [.Tuple [.Name tx p2, .Name ty p3] k p4] X.env := by rfl) (hpl : (backTo pos (starEach [.Tuple [.Name tx p2, .Name ty p3] k p4] X.env)).any (·.1) = false := by rfl) :
    DE X F0 H0 W (.Call (.Name x p) [a, .Tuple [.Name tx p2, .Name ty p3] k p4] [] pos) (d1 (fun d => some (.bool (g d || g' d))) f) := by
  refine PE.imp (pe_callB call_isiT hg hm hv (pa_cons ha (pa_cons (pe_tup (pa_cons (pe_bltn (v := .ty tn) gt mt vt rfl hn2 hdb2) (pa_cons (pe_bltn (v := .ty tm) gt2 mt2 vt2 rfl hn3 hdb3) pa_nil h3) h2)) pa_nil h1) he) hn hdb he hpl) fun σ H Q ⟨ρ, F, sr, q⟩ => ?_
  obtain ⟨ρ1, F1, sr1, q1⟩ := rd_step (R := Den X.K) sr q
  refine ⟨ρ1, F1, sr1, q1.imp fun v H1 F2 d g1 r1 k => ?_⟩
  obtain ⟨a', F3, g3, r3, sr3, q3⟩ := k v H1 F2 (.refl g1.fh) r1
  refine ⟨z24 (show 2 ≤ 16777216 by decide), fun tp hp => ?_⟩
  have gn := Gr.newO (o := .tup [.ty tn, .ty tm]) sr3.ex hp
  refine ⟨v, tp, [.ty tn, .ty tm], .type (tyOf a'), [.type tn, .type tm], g a' || g' a', rfl, upd_same, .cons (.ty tn) (.cons (.ty tm) .nil), (r3.tyx (sr3.ex.trans (Ex.new hp))), ?_, q3 _ _ F3 gn (.bl _)⟩
  refine kitAny_cons (kit_ty (hk a')) (fun e => kitAny_cons (kit_ty (hk2 a')) (fun e2 => ?_) fun e2 => ?_) fun e => ?_
  · rw [e, e2]; exact kitAny_nil
  · rw [e, e2]; rfl
  · rw [e]; rfl
end
end DL

/-! DL4: statements, loops, calls, comprehensions. -/
namespace DL
open PySem PySem.Spec PyProof.Rows L2

inductive Out where
  | nx (ρ : Sls)
  | rt (d : PyData)
  | bk (ρ : Sls)
  | ct (ρ : Sls)
  | exc (x : Xn) (ρ : Sls)
  | bad
section
variable (mg : Str → Option Value) (K : PySem.W.Frag) (F0 H0 : Hp) (W : WX)
def Fin (o : Out) (D : Ends) (F : Hp) : Prop := match o with
  | .nx ρ' => ∀ σ' H' F', SR K F0 H0 ρ' σ' H' F' → Ex F F' → D.nx σ' H'
  | .rt d => ∀ v H' F', Gr F0 H0 F' H' → Ex F F' → Den K F' v d → D.rt v H'
  | .bk ρ' => ∀ σ' H' F', SR K F0 H0 ρ' σ' H' F' → Ex F F' → D.bk σ' H'
  | .ct ρ' => ∀ σ' H' F', SR K F0 H0 ρ' σ' H' F' → Ex F F' → D.ct σ' H'
  | .exc x ρ' => ∀ cls dd σ' H' F', SR K F0 H0 ρ' σ' H' F' → Ex F F' → ExR mg x cls dd H' F' → W cls dd σ' H'
  | .bad => False
def sOf (g : Sls → Out) : TS := fun D σ H => ∃ ρ F, SR K F0 H0 ρ σ H F ∧ Fin mg K F0 H0 W (g ρ) D F
end
def sE {α : Type} (f : Sls → Res α) (k : α → Sls → Out) (ρ : Sls) : Out := match f ρ with
  | .ok a => k a ρ
  | .exc x => .exc x ρ
  | .bad => .bad
section
variable {mg : Str → Option Value} {K : PySem.W.Frag} {F0 H0 : Hp} {W : WX} {α β : Type} {R : Hp → β → α → Prop} {σ : L2.St} {H F F1 : Hp} {ρ : Sls}
theorem Fin.weak {o : Out} {D : Ends} (e : Ex F F1) (h : Fin mg K F0 H0 W o D F) : Fin mg K F0 H0 W o D F1 := by
  cases o with
  | nx ρ' => exact fun σ' H' F' s x => h σ' H' F' s (e.trans x)
  | rt d => exact fun v H' F' s x => h v H' F' s (e.trans x)
  | bk ρ' => exact fun σ' H' F' s x => h σ' H' F' s (e.trans x)
  | ct ρ' => exact fun σ' H' F' s x => h σ' H' F' s (e.trans x)
  | exc x ρ' => exact fun cls dd σ' H' F' s x => h cls dd σ' H' F' s (e.trans x)
  | bad => exact h
/-- the ends are wished for more -/
theorem Fin.mono {o : Out} {D D' : Ends} (h : Fin mg K F0 H0 W o D F) (h1 : ∀ ρ', o = .nx ρ' → ∀ σ' H' F', SR K F0 H0 ρ' σ' H' F' → Ex F F' → D.nx σ' H' → D'.nx σ' H') (h2 : ∀ d, o = .rt d → ∀ v H' F', Gr F0 H0 F' H' → Ex F F' → Den K F' v d → D.rt v H' → D'.rt v H')
    (h3 : ∀ ρ', o = .bk ρ' → ∀ σ' H' F', SR K F0 H0 ρ' σ' H' F' → Ex F F' → D.bk σ' H' → D'.bk σ' H') (h4 : ∀ ρ', o = .ct ρ' → ∀ σ' H' F', SR K F0 H0 ρ' σ' H' F' → Ex F F' → D.ct σ' H' → D'.ct σ' H') : Fin mg K F0 H0 W o D' F := by
  cases o with
  | nx ρ' => exact fun σ' H' F' s x => h1 ρ' rfl σ' H' F' s x (h σ' H' F' s x)
  | rt d => exact fun v H' F' s x y => h2 d rfl v H' F' s x y (h v H' F' s x y)
  | bk ρ' => exact fun σ' H' F' s x => h3 ρ' rfl σ' H' F' s x (h σ' H' F' s x)
  | ct ρ' => exact fun σ' H' F' s x => h4 ρ' rfl σ' H' F' s x (h σ' H' F' s x)
  | exc x ρ' => exact h
  | bad => exact h
theorem fin_rd {f : Sls → Res α} {k : α → Sls → Out} {D : Ends} (sr : SR K F0 H0 ρ σ H F) (q : Fin mg K F0 H0 W (sE f k ρ) D F) :
    rd mg K F0 H0 W R f σ H (fun v H1 => ∃ a F1, Gr F H F1 H1 ∧ R F1 v a ∧ SR K F0 H0 ρ σ H1 F1 ∧ Fin mg K F0 H0 W (k a ρ) D F1) := by
  refine ⟨ρ, F, sr, ?_⟩
  unfold sE at q
  cases e : f ρ with
  | ok a => rw [e] at q; exact fun v H1 F1 g r => ⟨a, F1, g, r, sr.grow g, q.weak g.ff⟩
  | exc x => rw [e] at q; exact fun cls dd H1 F1 g r => q cls dd σ H1 F1 (sr.grow g) g.ff r
  | bad => rw [e] at q; exact q
end

/-- what every rule of a body may ask of its place -/
structure Cz (X : Cx) (W : WX) (k : Nat) : Prop where
  calm : X.calm = true
  tk : Takes X W
  po : PassesOwn (model X.prog X.w) X.A X.env X.xe
  room : Room k X.A
abbrev WF : WX := fun _ _ _ _ => False
theorem Cz.blk {X : Cx} {W : WX} {k : Nat} (c : Cz X W k) (s : Shared) (H : Hp) (scope : Scope) (cenv : PySem.Env) (fp : List Addr) : Cz (X.blk s H scope cenv fp) WF k := ⟨c.calm, takes0, PassesOwn.never, c.room⟩

section
variable (X : Cx) (F0 H0 : Hp) (W : WX)
def DS (st : Stmt) (g : Sls → Out) : Prop := PS X st (sOf X.mg X.K F0 H0 W g)
def DSs (st : List Stmt) (g : Sls → Out) : Prop := PSs X st (sOf X.mg X.K F0 H0 W g)
end
section
variable {X : Cx} {F0 H0 : Hp} {W : WX} {pos : Pos} {e c : Expr} {st : Stmt} {rest b1 b2 : List Stmt} {f : Sls → Res PyData} {t : Sls → Res Bool} {g g1 g2 : Sls → Out} {k : Nat}
def gNext (ρ : Sls) : Out := .nx ρ
def gSeq (g1 g2 : Sls → Out) (ρ : Sls) : Out := match g1 ρ with
  | .nx ρ' => g2 ρ'
  | o => o
theorem dss_nil : DSs X F0 H0 W [] gNext := PSs.imp pss_nil fun D σ H ⟨ρ, F, sr, q⟩ => q σ H F sr (.refl _)
theorem dss_cons (h1 : DS X F0 H0 W st g1) (h2 : DSs X F0 H0 W rest g2) : DSs X F0 H0 W (st :: rest) (gSeq g1 g2) := by
  refine PSs.imp (pss_cons h1 h2) fun D σ H ⟨ρ, F, sr, q⟩ => ⟨ρ, F, sr, ?_⟩
  unfold gSeq at q
  cases e : g1 ρ with
  | nx ρ' =>
    rw [e] at q
    exact fun σ' H' F' sr' x => ⟨ρ', F', sr', q.weak x⟩
  | rt d => rw [e] at q; exact q
  | bk ρ' => rw [e] at q; exact q
  | ct ρ' => rw [e] at q; exact q
  | exc x ρ' => rw [e] at q; exact q
  | bad => rw [e] at q; exact q
theorem dss_one (h1 : DS X F0 H0 W st g) : DSs X F0 H0 W [st] g := pss_one h1
theorem ds_pass : DS X F0 H0 W (.Pass pos) gNext := PS.imp ps_pass fun D σ H ⟨ρ, F, sr, q⟩ => q σ H F sr (.refl _)
theorem ds_break : DS X F0 H0 W (.Break pos) (fun ρ => .bk ρ) := PS.imp ps_break fun D σ H ⟨ρ, F, sr, q⟩ => q σ H F sr (.refl _)
theorem ds_continue : DS X F0 H0 W (.Continue pos) (fun ρ => .ct ρ) := PS.imp ps_continue fun D σ H ⟨ρ, F, sr, q⟩ => q σ H F sr (.refl _)
def gIf (t : Sls → Res Bool) (g1 g2 : Sls → Out) : Sls → Out := sE t fun b ρ => if b = true then g1 ρ else g2 ρ
theorem ds_if (hc : DT X F0 H0 W c t) (ha : DSs X F0 H0 W b1 g1) (hb : DSs X F0 H0 W b2 g2) : DS X F0 H0 W (.If c b1 b2 pos) (gIf t g1 g2) := by
  refine PS.imp (ps_if hc ha hb) fun D σ H ⟨ρ, F, sr, q⟩ => ?_
  obtain ⟨ρ1, F1, sr1, q1⟩ := fin_rd (R := REq) sr q
  refine ⟨ρ1, F1, sr1, q1.imp fun v H1 F2 a g1 r1 k => ?_⟩
  obtain ⟨a', F3, g3, rfl, sr3, q3⟩ := k v H1 F2 (.refl g1.fh) r1
  cases v with
  | true => simp only [if_true] at q3 ⊢; exact ⟨ρ, F3, sr3, q3⟩
  | false => simp only [Bool.false_eq_true, if_false] at q3 ⊢; exact ⟨ρ, F3, sr3, q3⟩
def gSet (i : Nat) (f : Sls → Res PyData) : Sls → Out := sE f fun d ρ => .nx (ρ.set i (.val d))
theorem ds_set {i : Nat} {x : Str} {pos' : Pos} (hN : X.N.Nodup) (hi : X.N[i]? = some x) (hx : Loc X.env.scope x) (he : DE X F0 H0 W e f) (hs : swapsWith e (some (.Name x pos')) pos.line X.env = pure false := by rfl) (hf : X.fn x = true ∨ X.env.scope.names.lookup x = some .local := by first | exact .inl rfl | exact .inr rfl | assumption) :
    DS X F0 H0 W (.Assign [.Name x pos'] e pos) (gSet i f) := by
  refine PS.imp (ps_set hN hi hx he hs hf) fun D σ H ⟨ρ, F, sr, q⟩ => ?_
  obtain ⟨ρ1, F1, sr1, q1⟩ := fin_rd (R := Den X.K) sr q
  refine ⟨ρ1, F1, sr1, q1.imp fun v H1 F2 a g1 r1 k => ?_⟩
  obtain ⟨a', F3, g3, r3, sr3, q3⟩ := k v H1 F2 (.refl g1.fh) r1
  exact q3 _ H1 F3 (sr3.set r3 i) (.refl _)
/-- x = a new list, kept apart -/
def gSetN (i : Nat) (fs : Sls → Res (List PyData)) : Sls → Out := sE fs fun ds ρ => .nx (ρ.set i (.own ds))
theorem fin_n {fs : Sls → Res (List PyData)} {D : Ends} {σ : L2.St} {H F : Hp} {ρ : Sls} {i : Nat} (sr : SR X.K F0 H0 ρ σ H F) (q : Fin X.mg X.K F0 H0 W (gSetN i fs ρ) D F) : nOf F0 H0 W X.mg X.K fs σ H fun v H1 => D.nx (σ.set i (some v)) H1 := by
  refine ⟨ρ, F, sr, ?_⟩
  unfold gSetN sE at q
  cases e : fs ρ with
  | ok ds =>
    rw [e] at q
    intro a xs H1 F1 g1 ha hx hF dn
    have own : ∀ j, ¬ OwnAt ρ σ j a := fun j o => sr.ownNe o ha
    exact q _ H1 F1 ((sr.grow g1).setO hx hF (not_of_none sr.gr.hh ha) own dn i) g1.ff
  | exc x => rw [e] at q; exact fun cls dd H1 F1 g r => q cls dd σ H1 F1 (sr.grow g) g.ff r
  | bad => rw [e] at q; exact q
theorem ds_setN {i : Nat} {x : Str} {pos' : Pos} {fs : Sls → Res (List PyData)} (hN : X.N.Nodup) (hi : X.N[i]? = some x) (hx : Loc X.env.scope x) (he : DN X F0 H0 W e fs) (hs : swapsWith e (some (.Name x pos')) pos.line X.env = pure false := by rfl) (hf : X.fn x = true ∨ X.env.scope.names.lookup x = some .local := by first | exact .inl rfl | exact .inr rfl | assumption) :
    DS X F0 H0 W (.Assign [.Name x pos'] e pos) (gSetN i fs) :=
  PS.imp (ps_set hN hi hx he hs hf) fun D σ H ⟨ρ, F, sr, q⟩ => fin_n sr q
def gRet (f : Sls → Res PyData) : Sls → Out := sE f fun d _ => .rt d
theorem ds_ret (he : DE X F0 H0 W e f) : DS X F0 H0 W (.Return (some e) pos) (gRet f) := by
  refine PS.imp (ps_ret he) fun D σ H ⟨ρ, F, sr, q⟩ => ?_
  obtain ⟨ρ1, F1, sr1, q1⟩ := fin_rd (R := Den X.K) sr q
  refine ⟨ρ1, F1, sr1, q1.imp fun v H1 F2 a g1 r1 k => ?_⟩
  obtain ⟨a', F3, g3, r3, sr3, q3⟩ := k v H1 F2 (.refl g1.fh) r1
  exact q3 v H1 F3 sr3.gr (.refl _) r3
theorem ds_retN : DS X F0 H0 W (.Return none pos) (fun _ => .rt .none) := PS.imp ps_retN fun D σ H ⟨ρ, F, sr, q⟩ => q .non H F sr.gr (.refl _) .non
def gDrop (f : Sls → Res PyData) : Sls → Out := sE f fun _ ρ => .nx ρ
theorem ds_expr (he : DE X F0 H0 W e f) (hs : swapsWith e none pos.line X.env = pure false := by rfl) : DS X F0 H0 W (.Expr e pos) (gDrop f) := by
  refine PS.imp (ps_expr he hs) fun D σ H ⟨ρ, F, sr, q⟩ => ?_
  obtain ⟨ρ1, F1, sr1, q1⟩ := fin_rd (R := Den X.K) sr q
  refine ⟨ρ1, F1, sr1, q1.imp fun v H1 F2 a g1 r1 k => ?_⟩
  obtain ⟨a', F3, g3, r3, sr3, q3⟩ := k v H1 F2 (.refl g1.fh) r1
  exact q3 _ H1 F3 sr3 (.refl _)
theorem ds_doc {x j} {pos' : Pos} : DS X F0 H0 W (.Expr (.Constant (.str x) j pos) pos') gNext := PS.imp ps_doc fun D σ H ⟨ρ, F, sr, q⟩ => q σ H F sr (.refl _)

/-! an own list is used -/
def frz (i : Nat) (ρ : Sls) : Sls := match ρ[i]? with
  | some (.own ds) => ρ.set i (.val (.list ds))
  | _ => ρ
theorem frz_sr {K : PySem.W.Frag} {σ : L2.St} {H F : Hp} {ρ : Sls} (i : Nat) (sr : SR K F0 H0 ρ σ H F) : ∃ F', Ex F F' ∧ SR K F0 H0 (frz i ρ) σ H F' := by
  unfold frz
  cases e : ρ[i]? with
  | none => exact ⟨F, .refl _, sr⟩
  | some s =>
    cases s with
    | own ds =>
      obtain ⟨a, xs, F', _, _, _, _, _, hx, sr'⟩ := sr.freeze e
      exact ⟨F', hx, sr'⟩
    | val d => exact ⟨F, .refl _, sr⟩
    | un => exact ⟨F, .refl _, sr⟩
    | adr a => exact ⟨F, .refl _, sr⟩
/-- from here on slot i is data -/
theorem DS.frz (i : Nat) (h : DS X F0 H0 W st g) : DS X F0 H0 W st (fun ρ => g (frz i ρ)) := PS.imp h fun D σ H ⟨ρ, F, sr, q⟩ => by
  obtain ⟨F', hx, sr'⟩ := frz_sr i sr
  exact ⟨_, F', sr', q.weak hx⟩
theorem DSs.frz (i : Nat) (h : DSs X F0 H0 W rest g) : DSs X F0 H0 W rest (fun ρ => g (frz i ρ)) := PSs.imp h fun D σ H ⟨ρ, F, sr, q⟩ => by
  obtain ⟨F', hx, sr'⟩ := frz_sr i sr
  exact ⟨_, F', sr', q.weak hx⟩
/-- slot i is data for one expression whose value is flat -/
def flatR (r : Res PyData) : Res PyData := match r with
  | .ok d => if flatD d = true then .ok d else .bad
  | .exc _ => .bad
  | .bad => .bad
theorem brw {σ : L2.St} {H F : Hp} {ρ : Sls} (i : Nat) (sr : SR X.K F0 H0 ρ σ H F) : ∃ F', SR X.K F0 H0 (frz i ρ) σ H F' ∧ ∀ H' F2, Gr F' H F2 H' → Gr F H F H' := by
  obtain ⟨F', hx, sr'⟩ := frz_sr i sr
  refine ⟨F', sr', fun H' F2 g => ⟨.refl _, g.hh, sr.ex.trans g.hh, fun _ h _ => h, fun a o u h z => by rw [not_of_none sr.ex h] at z; cases z⟩⟩
theorem DE.brw (i : Nat) (h : DE X F0 H0 W e f) : DE X F0 H0 W e (fun ρ => flatR (f (frz i ρ))) := PE.imp h fun σ H Q ⟨ρ, F, sr, q⟩ => by
  obtain ⟨F', sr', gg⟩ := DL.brw i sr
  refine ⟨_, F', sr', ?_⟩
  cases e : f (DL.frz i ρ) with
  | ok d =>
    simp only [e, flatR] at q
    by_cases hd : flatD d = true
    · rw [if_pos hd] at q
      exact fun v H1 F1 g r => q v H1 F (gg H1 F1 g) (r.toFlat hd F)
    · rw [if_neg hd] at q
      exact q.elim
  | exc x => simp only [e, flatR] at q; exact q.elim
  | bad => simp only [e, flatR] at q; exact q.elim
def boolR (r : Res Bool) : Res Bool := match r with
  | .ok d => .ok d
  | .exc _ => .bad
  | .bad => .bad
theorem DT.brw (i : Nat) (h : DT X F0 H0 W e t) : DT X F0 H0 W e (fun ρ => boolR (t (frz i ρ))) := PT.imp h fun σ H Q ⟨ρ, F, sr, q⟩ => by
  obtain ⟨F', sr', gg⟩ := DL.brw i sr
  refine ⟨_, F', sr', ?_⟩
  cases e : t (DL.frz i ρ) with
  | ok d =>
    simp only [e, boolR] at q
    exact fun v H1 F1 g r => q v H1 F (gg H1 F1 g) r
  | exc x => simp only [e, boolR] at q; exact q.elim
  | bad => simp only [e, boolR] at q; exact q.elim
/-- xs.append(e), xs in slot i -/
def gApp (i : Nat) (f : Sls → Res PyData) (ρ : Sls) : Out := match ρ[i]? with
  | some (.own ds) => sE f (fun d ρ => if ds.length < 16777216 then .nx (ρ.set i (.own (ds ++ [d]))) else .bad) ρ
  | _ => .bad
theorem ds_append {i : Nat} {x : Str} {xp apos cpos : Pos} (hv : PE X (.Name x xp) (tVar i)) (he : DE X F0 H0 W e f)
    (hbase : attributeBase (.Name x xp) "append" X.env (eval (.Name x xp) X.env) = eval (.Name x xp) X.env := by rfl)
    (hfew : ((backTo cpos (starEach (e :: []) X.env)).all (fun x => !x.1) && (backToKw cpos (keywordEach [] X.env)).all (fun x => x.1.isSome)
      && decide ((e :: []).length + ([] : List Keyword).length + (if ([] : List Keyword).isEmpty then 0 else 1) < 30)) = true := by rfl)
    (hline : (apos.endLine == cpos.line) = true := by rfl) (hs : starEach (e :: []) X.env = (false, eval e X.env) :: starEach [] X.env := by rfl) (hplain : (backTo cpos (starEach [] X.env)).any (·.1) = false := by rfl)
    (hw : swapsWith (.Call (.Attribute (.Name x xp) "append" apos) (e :: []) [] cpos) none pos.line X.env = pure false := by rfl) :
    DS X F0 H0 W (.Expr (.Call (.Attribute (.Name x xp) "append" apos) (e :: []) [] cpos) pos) (gApp i f) := by
  refine PS.imp (ps_expr (pe_bm PySem.F.plainAttrs_list PySem.F.slot_list_append PySem.F.type_list_append mt_append hv (pa_cons he pa_nil hs) hbase hfew hline hs hplain) hw) fun D σ H ⟨ρ, F, sr, q⟩ => ?_
  unfold gApp at q
  cases e1 : ρ[i]? with
  | none => simp only [e1] at q; exact q.elim
  | some s =>
    cases s with
    | un => simp only [e1] at q; exact q.elim
    | adr a => simp only [e1] at q; exact q.elim
    | val d => simp only [e1] at q; exact q.elim
    | own ds =>
      simp only [e1] at q
      obtain ⟨a, xs, e2, h1, h2, h3⟩ := sr.sl i _ e1
      refine ⟨.ref a, e2, .inl ⟨rfl, xs, .inl (.inl h1)⟩, ?_⟩
      obtain ⟨ρ1, F1, sr1, q1⟩ := fin_rd (R := Den X.K) sr q
      refine ⟨ρ1, F1, sr1, q1.imp fun v H1 F2 d g1 r1 k => ?_⟩
      obtain ⟨d', F3, g3, r3, sr3, q3⟩ := k v H1 F2 (.refl g1.fh) r1
      obtain ⟨a', xs', e2', h1', h2', h3'⟩ := sr3.sl i _ e1
      rw [e2] at e2'
      have e4 : V.ref a = V.ref a' := Option.some.inj (Option.some.inj e2')
      cases e4
      by_cases hz : ds.length < 16777216
      · simp only [hz, if_true] at q3
        refine ⟨a, xs', v, rfl, rfl, h1', by rw [h3'.length, line24]; exact hz, ?_⟩
        exact q3 σ _ F3 (sr3.change e1 e2 (h3'.append (.cons r3 .nil))) (.refl _)
      · simp only [hz, if_false] at q3
        exact q3.elim

/-! ### targets -/
def gOf (K : PySem.W.Frag) (F0 H0 : Hp) (bt : PyData → Sls → Option Sls) (vs : List Nat) : TG := fun v σ H Q => ∃ ρ F d, SR K F0 H0 ρ σ H F ∧ Den K F v d ∧ match bt d ρ with
  | some ρ' => ∀ σ', SR K F0 H0 ρ' σ' H F → (∀ ws, (∀ i ∈ vs, i ∈ ws) → wipe σ' ws = wipe σ ws) → Q σ' H
  | none => False
def gsOf (K : PySem.W.Frag) (F0 H0 : Hp) (bt : List PyData → Sls → Option Sls) (vs : List Nat) : TGs := fun xs σ H Q => ∃ ρ F ds, SR K F0 H0 ρ σ H F ∧ Dens K F xs ds ∧ match bt ds ρ with
  | some ρ' => ∀ σ', SR K F0 H0 ρ' σ' H F → (∀ ws, (∀ i ∈ vs, i ∈ ws) → wipe σ' ws = wipe σ ws) → Q σ' H
  | none => False
def DG (X : Cx) (F0 H0 : Hp) (e : Expr) (bt : PyData → Sls → Option Sls) (vs : List Nat) : Prop := PG X e (gOf X.K F0 H0 bt vs)
def DGs (X : Cx) (F0 H0 : Hp) (es : List Expr) (bt : List PyData → Sls → Option Sls) (vs : List Nat) : Prop := PGs X es (gsOf X.K F0 H0 bt vs)
theorem PG.imp {X : Cx} {e : Expr} {t t' : TG} (h : PG X e t) (k : ∀ v σ H Q, t' v σ H Q → t v σ H Q) : PG X e t' := ⟨fun pins s σ H v u Q I r q => h.run pins s σ H v u Q I r (k v σ H Q q)⟩
theorem PGs.imp {X : Cx} {e : List Expr} {t t' : TGs} (h : PGs X e t) (k : ∀ v σ H Q, t' v σ H Q → t v σ H Q) : PGs X e t' := ⟨fun pins s σ H v u Q I r q => h.run pins s σ H v u Q I r (k v σ H Q q)⟩
theorem wipe_set_out {σ : L2.St} {i : Nat} {o : Option V} : ∀ {vs : List Nat}, i ∉ vs → wipe (σ.set i o) vs = (wipe σ vs).set i o
  | [], _ => rfl
  | v :: vs, h => by
    have h1 : v ≠ i := fun e => h (by rw [e]; exact List.mem_cons_self)
    have h2 : i ∉ vs := fun m => h (List.mem_cons_of_mem _ m)
    unfold wipe
    rw [wipe_set_out h2, List.set_comm _ _ (Ne.symm h1)]
theorem wipe_set {σ : L2.St} {i : Nat} {o : Option V} : ∀ {vs : List Nat}, i ∈ vs → wipe (σ.set i o) vs = wipe σ vs
  | [], h => by cases h
  | v :: vs, h => by
    unfold wipe
    by_cases h2 : i ∈ vs
    · rw [wipe_set h2]
    · have h1 : i = v := by
        rcases List.mem_cons.mp h with e | m
        · exact e
        · exact absurd m h2
      subst h1
      rw [wipe_set_out h2, List.set_set]
def bName (i : Nat) (d : PyData) (ρ : Sls) : Option Sls := some (ρ.set i (.val d))
theorem dg_name {i : Nat} {x : Str} (hN : X.N.Nodup) (hi : X.N[i]? = some x) (hx : Loc X.env.scope x) (hf : X.fn x = true ∨ X.env.scope.names.lookup x = some .local := by first | exact .inl rfl | exact .inr rfl | assumption) : DG X F0 H0 (.Name x pos) (bName i) [i] :=
  PG.imp (pg_name hN hi hx hf) fun v σ H Q ⟨ρ, F, d, sr, dn, q⟩ => q _ (sr.set dn i) fun ws hw => wipe_set (hw i List.mem_cons_self)
def bNil (ds : List PyData) (ρ : Sls) : Option Sls := match ds with
  | [] => some ρ
  | _ => none
def bCons (b : PyData → Sls → Option Sls) (bs : List PyData → Sls → Option Sls) (ds : List PyData) (ρ : Sls) : Option Sls := match ds with
  | d :: ds => (b d ρ).bind (bs ds)
  | [] => none
theorem dgs_nil : DGs X F0 H0 [] bNil [] := by
  refine PGs.imp pgs_nil fun xs σ H Q ⟨ρ, F, ds, sr, dn, q⟩ => ?_
  cases dn with
  | nil => exact ⟨rfl, q σ sr fun ws _ => rfl⟩
  | cons _ _ => exact q.elim
theorem dgs_cons {es : List Expr} {b : PyData → Sls → Option Sls} {bs : List PyData → Sls → Option Sls} {vs ws : List Nat} (h1 : DG X F0 H0 e b vs) (h2 : DGs X F0 H0 es bs ws)
    (hs : (assignEach (e :: es) X.env).map (·.2) = assign e X.env :: (assignEach es X.env).map (·.2) := by rfl) : DGs X F0 H0 (e :: es) (bCons b bs) (vs ++ ws) := by
  refine PGs.imp (pgs_cons h1 h2 hs) fun xs σ H Q ⟨ρ, F, ds, sr, dn, q⟩ => ?_
  cases dn with
  | nil => exact q.elim
  | @cons v xs d ds r1 r2 =>
    have q' : match (b d ρ).bind (bs ds) with
      | some ρ' => ∀ σ', SR X.K F0 H0 ρ' σ' H F → (∀ zs, (∀ i ∈ vs ++ ws, i ∈ zs) → wipe σ' zs = wipe σ zs) → Q σ' H
      | none => False := q
    refine ⟨v, xs, rfl, ρ, F, d, sr, r1, ?_⟩
    cases e1 : b d ρ with
    | none => rw [e1] at q'; exact q'.elim
    | some ρ1 =>
      rw [e1] at q'
      refine fun σ1 sr1 w1 => ⟨ρ1, F, ds, sr1, r2, ?_⟩
      have q2 : match bs ds ρ1 with
        | some ρ' => ∀ σ', SR X.K F0 H0 ρ' σ' H F → (∀ zs, (∀ i ∈ vs ++ ws, i ∈ zs) → wipe σ' zs = wipe σ zs) → Q σ' H
        | none => False := q'
      cases e2 : bs ds ρ1 with
      | none => rw [e2] at q2; exact q2.elim
      | some ρ2 =>
        rw [e2] at q2
        exact fun σ2 sr2 w2 => q2 σ2 sr2 fun zs hz => (w2 zs fun i hi => hz i (List.mem_append_right _ hi)).trans (w1 zs fun i hi => hz i (List.mem_append_left _ hi))
/-- (a, b, ..) = a tuple, a list -/
def bTup (n : Nat) (bs : List PyData → Sls → Option Sls) (d : PyData) (ρ : Sls) : Option Sls := match d with
  | .tuple ds => if ds.length = n then bs ds ρ else none
  | _ => none
theorem dg_tup {es : List Expr} {k : Nat} {bs : List PyData → Sls → Option Sls} {vs : List Nat} {n : Nat} (hc : X.calm = true) (h : DGs X F0 H0 es bs vs)
    (hn : (assignEach es X.env).length = n := by rfl) (hst : (assignEach es X.env).findIdx? (·.1) = none := by rfl) : DG X F0 H0 (.Tuple es k pos) (bTup n bs) vs := by
  refine PG.imp (pg_tup hc h hn hst) fun v σ H Q ⟨ρ, F, d, sr, dn, q⟩ => ?_
  cases dn with
  | @tup a xs ds h1 h2 =>
    by_cases hz : ds.length = n
    · simp only [bTup, hz, if_true] at q
      exact ⟨a, xs, rfl, sr.ex.st h1, by rw [h2.length]; exact hz, ρ, F, ds, sr, h2, q⟩
    · simp only [bTup, hz, if_false] at q
  | _ => exact q.elim
def bLst (n : Nat) (bs : List PyData → Sls → Option Sls) (d : PyData) (ρ : Sls) : Option Sls := match d with
  | .list ds => if ds.length = n then bs ds ρ else none
  | _ => none
theorem dg_lst {es : List Expr} {k : Nat} {bs : List PyData → Sls → Option Sls} {vs : List Nat} {n : Nat} (hc : X.calm = true) (h : DGs X F0 H0 es bs vs)
    (hn : (assignEach es X.env).length = n := by rfl) (hst : (assignEach es X.env).findIdx? (·.1) = none := by rfl) : DG X F0 H0 (.Tuple es k pos) (bLst n bs) vs := by
  refine PG.imp (pg_lst hc h hn hst) fun v σ H Q ⟨ρ, F, d, sr, dn, q⟩ => ?_
  cases dn with
  | @lst a xs ds h1 h2 =>
    by_cases hz : ds.length = n
    · simp only [bLst, hz, if_true] at q
      exact ⟨a, xs, rfl, sr.ex.sl h1, by rw [h2.length]; exact hz, ρ, F, ds, sr, h2, q⟩
    · simp only [bLst, hz, if_false] at q
  | _ => exact q.elim
/-- target = e -/
def gAsg (f : Sls → Res PyData) (bt : PyData → Sls → Option Sls) : Sls → Out := sE f fun d ρ => match bt d ρ with
  | some ρ' => .nx ρ'
  | none => .bad
theorem ds_asg {tg : Expr} {bt : PyData → Sls → Option Sls} {vs : List Nat} (he : DE X F0 H0 W e f) (hg : DG X F0 H0 tg bt vs) (hs : swapsWithSole [tg] e pos.line X.env = pure false := by rfl) (hw : swappedStores [tg] e X.env = pure none := by rfl)
    (h1 : (assignEach [tg] X.env).map (·.2) = [assign tg X.env] := by rfl) : DS X F0 H0 W (.Assign [tg] e pos) (gAsg f bt) := by
  refine PS.imp (ps_asg he hg hs hw h1) fun D σ H ⟨ρ, F, sr, q⟩ => ?_
  obtain ⟨ρ1, F1, sr1, q1⟩ := fin_rd (R := Den X.K) sr q
  refine ⟨ρ1, F1, sr1, q1.imp fun v H1 F2 a g1 r1 k => ?_⟩
  obtain ⟨a', F3, g3, r3, sr3, q3⟩ := k v H1 F2 (.refl g1.fh) r1
  refine ⟨ρ, F3, a', sr3, r3, ?_⟩
  cases e1 : bt a' ρ with
  | none => simp only [e1] at q3; exact q3.elim
  | some ρ' => simp only [e1] at q3; exact fun σ' sr' _ => q3 σ' H1 F3 sr' (.refl _)
/-- a, b = e1, e2 at once -/
def gPar (i j : Nat) (fs : Sls → Res (List PyData)) : Sls → Out := sE fs fun ds ρ => match ds with
  | [x, y] => .nx ((ρ.set i (.val x)).set j (.val y))
  | _ => .bad
theorem ds_par {i j : Nat} {x y : Str} {a b : Expr} {px py pt : Pos} {kt k2 pt2} {fs : Sls → Res (List PyData)} (hc : X.calm = true) (hN : X.N.Nodup) (hi : X.N[i]? = some x) (hj : X.N[j]? = some y) (hij : i ≠ j)
    (hx : X.env.scope.names.lookup x = some .local) (hy : X.env.scope.names.lookup y = some .local) (ha : DA X F0 H0 W [a, b] fs)
    (hw : swappedStores [.Tuple [.Name x px, .Name y py] kt pt] (.Tuple [a, b] k2 pt2) X.env = pure (some [x, y]))
    (hs : swapsWithSole [.Tuple [.Name x px, .Name y py] kt pt] (.Tuple [a, b] k2 pt2) pos.line X.env = pure false := by rfl) :
    DS X F0 H0 W (.Assign [.Tuple [.Name x px, .Name y py] kt pt] (.Tuple [a, b] k2 pt2) pos) (gPar i j fs) := by
  refine PS.imp (ps_par hc hN hi hj hij hx hy ha hw hs) fun D σ H ⟨ρ, F, sr, q⟩ => ?_
  obtain ⟨ρ1, F1, sr1, q1⟩ := fin_rd (R := Dens X.K) sr q
  refine ⟨ρ1, F1, sr1, q1.imp fun v H1 F2 a g1 r1 k => ?_⟩
  obtain ⟨a', F3, g3, r3, sr3, q3⟩ := k v H1 F2 (.refl g1.fh) r1
  cases r3 with
  | nil => exact q3.elim
  | cons h1 r4 =>
    cases r4 with
    | nil => exact q3.elim
    | cons h2 r5 =>
      cases r5 with
      | nil => exact ⟨_, _, rfl, q3 _ H1 F3 ((sr3.set h1 i).set h2 j) (.refl _)⟩
      | cons _ _ => exact q3.elim
/-- x op= e -/
def gAug (i : Nat) (g : PyData → PyData → Option PyData) (f : Sls → Res PyData) (ρ : Sls) : Out := match ρ[i]? with
  | some (.val x) => sE f (fun y ρ => match g x y with
    | some z => .nx (ρ.set i (.val z))
    | none => .bad) ρ
  | _ => .bad
theorem ds_aug {i : Nat} {x : Str} {op : Operator} {g : PyData → PyData → Option PyData} {pos' : Pos} (hN : X.N.Nodup) (hi : X.N[i]? = some x) (hx : Loc X.env.scope x) (he : DE X F0 H0 W e f) (ho : OpR X (inplaceOp op) (r2 X.K g)) (hf : X.fn x = true ∨ X.env.scope.names.lookup x = some .local := by first | exact .inl rfl | exact .inr rfl | assumption) :
    DS X F0 H0 W (.AugAssign (.Name x pos') op e pos) (gAug i g f) := by
  refine PS.imp (ps_aug (ti := r2 X.K g) hN hi hx he ho hf) fun D σ H ⟨ρ, F, sr, q⟩ => ?_
  unfold gAug at q
  cases e1 : ρ[i]? with
  | none => simp only [e1] at q; exact q.elim
  | some s =>
    cases s with
    | un => simp only [e1] at q; exact q.elim
    | adr a => simp only [e1] at q; exact q.elim
    | own d => simp only [e1] at q; exact q.elim
    | val d =>
      simp only [e1] at q
      obtain ⟨v, e2, dv⟩ := sr.sl i _ e1
      refine ⟨v, e2, ?_⟩
      obtain ⟨ρ1, F1, sr1, q1⟩ := fin_rd (R := Den X.K) sr q
      refine ⟨ρ1, F1, sr1, q1.imp fun w H1 F2 d2 g1 r1 k => ?_⟩
      obtain ⟨d', F3, g3, r3, sr3, q3⟩ := k w H1 F2 (.refl g1.fh) r1
      refine ⟨d, d', F3, sr3.ex, dv.mono g3.ff, r3, ?_⟩
      cases e3 : g d d' with
      | none => simp only [e3] at q3; exact q3.elim
      | some z =>
        simp only [e3] at q3
        exact fun u H4 F4 g4 r4 => q3 _ H4 F4 ((sr3.grow g4).set r4 i) g4.ff
end
/-! += of ints and texts -/
section
variable {X : Cx}
def iaddD : PyData → PyData → Option PyData
  | .int i, .int j => some (.int (i + j))
  | .str x, .str y => if x.length + y.length ≤ 16777216 then some (.str (x ++ y)) else none
  | _, _ => none
theorem iop_addD : OpR X (inplaceOp .Add) (r2 X.K iaddD) := by
  intro pins s σ H x y v u Q I rx ry h
  obtain ⟨a, b, F, ex, da, db, q⟩ := h
  cases da with
  | int i =>
    cases db with
    | int j => exact iop_add pins s σ H _ _ v u Q I rx ry ⟨i, j, rfl, rfl, q.val ex (.int _)⟩
    | _ => exact q.elim
  | str i =>
    cases db with
    | str j =>
      by_cases hz : i.length + j.length ≤ 16777216
      · simp only [iaddD, hz, if_true] at q
        exact iop_add_str pins s σ H _ _ v u Q I rx ry ⟨i, j, rfl, rfl, z24 hz, q.val ex (.str _)⟩
      · simp only [iaddD, hz, if_false] at q
        exact q.elim
    | _ => exact q.elim
  | _ => exact q.elim
theorem iop_subD : OpR X (inplaceOp .Sub) (r2 X.K subD) := by
  intro pins s σ H x y v u Q I rx ry h
  obtain ⟨a, b, F, ex, da, db, q⟩ := h
  cases da with
  | int i =>
    cases db with
    | int j => exact iop_sub pins s σ H _ _ v u Q I rx ry ⟨i, j, rfl, rfl, q.val ex (.int _)⟩
    | _ => exact q.elim
  | _ => exact q.elim
end
end DL

/-! DL5: what is walked, for, while, comprehensions, calls of defs, a def's body. -/
namespace DL
open PySem PySem.Spec PyProof.Rows L2

/-! ### what is walked -/
structure ItOk (K : PySem.W.Frag) (J : It) (ds : List PyData) (F1 : Hp) : Prop where
  go : ∀ i H, Ex F1 H → i < ds.length → J.go i H
  stop : ∀ i H, Ex F1 H → ds.length = i → J.stop i H
  yld : ∀ i H x H' F d, Ex F1 F → Ex F H → ds[i]? = some d → J.yld i H x H' → ∃ F', Gr F H F' H' ∧ Den K F' x d
def iOf (mg : Str → Option Value) (K : PySem.W.Frag) (F0 H0 : Hp) (W : WX) (f : Sls → Res (List PyData)) : TI := fun σ H R => ∃ ρ F, SR K F0 H0 ρ σ H F ∧ match f ρ with
  | .ok ds => ∀ J H' F', Gr F H F' H' → ItOk K J ds F' → R J H'
  | .exc x => ∀ cls dd H' F', Gr F H F' H' → ExR mg x cls dd H' F' → W cls dd σ H'
  | .bad => False
def DI (X : Cx) (F0 H0 : Hp) (W : WX) (tg e : Expr) (f : Sls → Res (List PyData)) : Prop := PI X tg e (iOf X.mg X.K F0 H0 W f)
theorem itok_l {K : PySem.W.Frag} {F1 : Hp} {a : Addr} {xs : List V} {ds : List PyData} (h : SqL K F1 a xs) (q : Dens K F1 xs ds) : ItOk K (Itl K a) ds F1 := by
  refine ⟨fun i H e hi => ?_, fun i H e hi => ⟨xs, e.sl h, by rw [q.length]; exact Nat.le_of_eq hi⟩, fun i H x H' F d e1 e2 hd y => ?_⟩
  · obtain ⟨v, hv, _⟩ := q.get (List.getElem?_eq_getElem hi)
    exact ⟨xs, v, e.sl h, hv⟩
  · obtain ⟨rfl, y⟩ := y
    obtain ⟨v, hv, dv⟩ := q.get hd
    have := y xs ((e1.trans e2).sl h)
    rw [hv] at this
    cases this
    exact ⟨F, .refl e2, dv.mono e1⟩
theorem itok_t {K : PySem.W.Frag} {F1 : Hp} {a : Addr} {xs : List V} {ds : List PyData} (h : SqT K F1 a xs) (q : Dens K F1 xs ds) : ItOk K (Itt K a) ds F1 := by
  refine ⟨fun i H e hi => ?_, fun i H e hi => ⟨xs, e.st h, by rw [q.length]; exact Nat.le_of_eq hi⟩, fun i H x H' F d e1 e2 hd y => ?_⟩
  · obtain ⟨v, hv, _⟩ := q.get (List.getElem?_eq_getElem hi)
    exact ⟨xs, v, e.st h, hv⟩
  · obtain ⟨rfl, y⟩ := y
    obtain ⟨v, hv, dv⟩ := q.get hd
    have := y xs ((e1.trans e2).st h)
    rw [hv] at this
    cases this
    exact ⟨F, .refl e2, dv.mono e1⟩
def signsD (x : Str) : List PyData := x.cps.toList.map fun c => .str ⟨#[c]⟩
theorem itok_s {K : PySem.W.Frag} {F1 : Hp} {x : Str} : ItOk K (Its x) (signsD x) F1 := by
  have hl : (signsD x).length = x.cps.size := by simp [signsD]
  refine ⟨fun i H e hi => by rw [hl] at hi; exact hi, fun i H e hi => by rw [hl] at hi; exact Nat.le_of_eq hi, fun i H v H' F d e1 e2 hd y => ?_⟩
  obtain ⟨rfl, c, hc, rfl⟩ := y
  have : d = .str ⟨#[c]⟩ := by
    unfold signsD at hd
    rw [List.getElem?_map, Array.getElem?_toList, hc] at hd
    cases hd
    rfl
  subst this
  exact ⟨F, .refl e2, .str _⟩
def rangeD (lo : Int) (n : Nat) : List PyData := (List.range n).map fun i => .int (lo + (i : Nat))
theorem itok_r {K : PySem.W.Frag} {F1 : Hp} {lo : Int} {n : Nat} : ItOk K (Itr lo n) (rangeD lo n) F1 := by
  have hl : (rangeD lo n).length = n := by simp [rangeD]
  refine ⟨fun i H e hi => by rw [hl] at hi; exact hi, fun i H e hi => by rw [hl] at hi; exact Nat.le_of_eq hi, fun i H v H' F d e1 e2 hd y => ?_⟩
  obtain ⟨rfl, rfl⟩ := y
  have hi : i < n := by rw [← hl]; exact (List.getElem?_eq_some_iff.mp hd).1
  have : d = .int (lo + (i : Nat)) := by
    unfold rangeD at hd
    rw [List.getElem?_map, List.getElem?_range hi] at hd
    cases hd
    rfl
  subst this
  exact ⟨F, .refl e2, .int _⟩
section
variable {X : Cx} {F0 H0 : Hp} {W : WX} {pos : Pos} {tg l a b c e : Expr} {f : Sls → Res PyData} {fs : Sls → Res (List PyData)}
/-- a list, a tuple, a text -/
def iAny (K : PySem.W.Frag) (tl : TE) : TI := fun σ H R => tl σ H fun x H1 => (∃ a, x = .ref a ∧ (∃ xs, SqL K H1 a xs) ∧ R (Itl K a) H1) ∨ (∃ a, x = .ref a ∧ (∃ xs, SqT K H1 a xs) ∧ R (Itt K a) H1) ∨ ∃ z, x = .str z ∧ R (Its z) H1
theorem pi_any {tl : TE} (hl : PE X l tl) : PI X tg l (iAny X.K tl) := by
  refine ⟨fun pins s σ H R I h => ?_⟩
  refine thn (hl.run pins s σ H _ I h) fun v s1 ⟨x, H1, I1, r1, q1⟩ => ?_
  rcases q1 with ⟨a, e, ⟨xs, hq⟩, q⟩ | ⟨a, e, ⟨xs, hq⟩, q⟩ | ⟨z, e, q⟩
  · subst e
    cases r1
    obtain ⟨its, rv, p, hz⟩ := I1.list hq
    refine wpAny_pyIter_list p.isList ?_
    refine ⟨s1.heap.objs.size, [s1.heap.objs.size], _, _, H1, rfl, I1.kept (t' := s1.toks) fun b o e => Heap.get?_push_of_some _ e, turn_list a _, ⟨_, Heap.get?_push_size _ rfl, rfl, rfl⟩, fun b hb => ?_, q⟩
    have e : b = s1.heap.objs.size := by simpa using hb
    subst e
    exact I1.fpOk (Nat.le_refl _) (I1.hok.fresh (Nat.le_refl _))
  · subst e
    cases r1
    obtain ⟨its, rv, p, hz⟩ := I1.tuple hq
    refine wpAny_pyIter_tuple (show s1.heap.IsTuple a its.toArray from p) ?_
    refine ⟨s1.heap.objs.size, [s1.heap.objs.size], _, _, H1, rfl, I1.kept (t' := s1.toks) fun b o e => Heap.get?_push_of_some _ e, turn_tuple a _, ⟨_, Heap.get?_push_size _ rfl, rfl, rfl⟩, fun b hb => ?_, q⟩
    have e : b = s1.heap.objs.size := by simpa using hb
    subst e
    exact I1.fpOk (Nat.le_refl _) (I1.hok.fresh (Nat.le_refl _))
  · subst e
    obtain ⟨t, rfl⟩ := r1
    cases ha : z.cps.all (· < 128)
    · exact wpAny_pyIter_wide ha (pi_one (tk := s1.toks) I1 _ (turn_str _ z t "str_iterator" (.inr rfl)) ⟨_, Heap.get?_push_size _ rfl, rfl, rfl⟩ q)
    · exact wpAny_pyIter_ascii ha (pi_one (tk := s1.toks) I1 _ (turn_str _ z t "str_ascii_iterator" (.inl rfl)) ⟨_, Heap.get?_push_size _ rfl, rfl, rfl⟩ q)
def itemsOf : PyData → Option (List PyData)
  | .list ds => some ds
  | .tuple ds => some ds
  | .str z => some (signsD z)
  | _ => none
def dItems (f : Sls → Res PyData) (ρ : Sls) : Res (List PyData) := f ρ >>= fun d => ofO (itemsOf d)
theorem di_any (h : DE X F0 H0 W l f) : DI X F0 H0 W tg l (dItems f) := by
  refine PI.imp (pi_any h) fun σ H R ⟨ρ, F, sr, q⟩ => ⟨ρ, F, sr, ?_⟩
  unfold dItems at q
  cases e : f ρ with
  | ok d =>
    simp only [e, bind_ok] at q
    intro v H1 F1 g1 r1
    cases r1 with
    | @lst a xs ds h1 h2 => exact .inl ⟨a, rfl, ⟨xs, g1.fh.sl h1⟩, q _ H1 F1 g1 (itok_l h1 h2)⟩
    | @tup a xs ds h1 h2 => exact .inr (.inl ⟨a, rfl, ⟨xs, g1.fh.st h1⟩, q _ H1 F1 g1 (itok_t h1 h2)⟩)
    | str z => exact .inr (.inr ⟨z, rfl, q _ H1 F1 g1 itok_s⟩)
    | _ => exact q.elim
  | exc x => simp only [e, bind_exc] at q; exact q
  | bad => simp only [e, bind_bad] at q
def rng1 : List PyData → Option (List PyData)
  | [.int j] => if -(2 ^ 62) ≤ j ∧ j < 2 ^ 62 then some (rangeD 0 j.toNat) else none
  | _ => none
def rng2 : List PyData → Option (List PyData)
  | [.int i, .int j] => if -(2 ^ 62) ≤ i ∧ i < 2 ^ 62 ∧ -(2 ^ 62) ≤ j ∧ j < 2 ^ 62 then some (rangeD i (j - i).toNat) else none
  | _ => none
def dRng (g : List PyData → Option (List PyData)) (fs : Sls → Res (List PyData)) (ρ : Sls) : Res (List PyData) := fs ρ >>= fun ds => ofO (g ds)
theorem di_range1 {p : Pos} (hg : Gl X "range") (hm : X.mg "range" = none) (ha : DA X F0 H0 W [a] fs) (hs : starEach [a] X.env = [(false, eval a X.env)] := by rfl) : DI X F0 H0 W tg (.Call (.Name "range" p) [a] [] pos) (dRng rng1 fs) := by
  refine PI.imp (pi_range1 hg hm ha hs) fun σ H R ⟨ρ, F, sr, q⟩ => ⟨ρ, F, sr, ?_⟩
  unfold dRng at q
  cases e : fs ρ with
  | ok ds =>
    simp only [e, bind_ok] at q
    intro v H1 F1 g1 r1
    cases r1 with
    | nil => exact q.elim
    | cons h1 r2 =>
      cases r2 with
      | cons _ _ => cases h1 <;> exact q.elim
      | nil =>
        cases h1 with
        | int j =>
          by_cases hz : -(2 ^ 62) ≤ j ∧ j < 2 ^ 62
          · simp only [rng1, hz, and_self, if_true] at q
            exact ⟨j, rfl, hz.1, hz.2, q _ H1 F1 g1 itok_r⟩
          · simp only [rng1, hz, if_false] at q
            exact q.elim
        | _ => exact q.elim
  | exc x => simp only [e, bind_exc] at q; exact q
  | bad => simp only [e, bind_bad] at q
theorem di_range2 {p : Pos} (hg : Gl X "range") (hm : X.mg "range" = none) (ha : DA X F0 H0 W [a, b] fs) (hs : starEach [a, b] X.env = [(false, eval a X.env), (false, eval b X.env)] := by rfl) (hs2 : starEach [b] X.env = [(false, eval b X.env)] := by rfl) :
    DI X F0 H0 W tg (.Call (.Name "range" p) [a, b] [] pos) (dRng rng2 fs) := by
  refine PI.imp (pi_range2 hg hm ha hs hs2) fun σ H R ⟨ρ, F, sr, q⟩ => ⟨ρ, F, sr, ?_⟩
  unfold dRng at q
  cases e : fs ρ with
  | ok ds =>
    simp only [e, bind_ok] at q
    intro v H1 F1 g1 r1
    cases r1 with
    | nil => exact q.elim
    | cons h1 r2 =>
      cases r2 with
      | nil => cases h1 <;> exact q.elim
      | cons h2 r3 =>
        cases r3 with
        | cons _ _ => cases h1 <;> cases h2 <;> exact q.elim
        | nil =>
          cases h1 with
          | int i =>
            cases h2 with
            | int j =>
              by_cases hz : -(2 ^ 62) ≤ i ∧ i < 2 ^ 62 ∧ -(2 ^ 62) ≤ j ∧ j < 2 ^ 62
              · have q' := q
                simp only [rng2] at q'
                rw [if_pos hz] at q'
                exact ⟨i, j, rfl, hz, q' _ H1 F1 g1 itok_r⟩
              · have q' := q
                simp only [rng2] at q'
                rw [if_neg hz] at q'
                exact q'.elim
            | _ => exact q.elim
          | _ => cases h2 <;> exact q.elim
  | exc x => simp only [e, bind_exc] at q; exact q
  | bad => simp only [e, bind_bad] at q

/-! ### for -/
def forL (bt : PyData → Sls → Option Sls) (body : Sls → Out) : List PyData → Sls → Out
  | [], ρ => .nx ρ
  | d :: ds, ρ => match bt d ρ with
    | none => .bad
    | some ρ1 => match body ρ1 with
      | .nx ρ2 => forL bt body ds ρ2
      | .ct ρ2 => forL bt body ds ρ2
      | .bk ρ2 => .nx ρ2
      | .rt d => .rt d
      | .exc x ρ2 => .exc x ρ2
      | .bad => .bad
def gFor (fs : Sls → Res (List PyData)) (bt : PyData → Sls → Option Sls) (body : Sls → Out) : Sls → Out := sE fs fun ds ρ => forL bt body ds ρ
theorem ds_for {iter : Expr} {body : List Stmt} {bt : PyData → Sls → Option Sls} {vs : List Nat} {g : Sls → Out} {k : Nat} (c : Cz X W k) (hi : DI X F0 H0 W tg iter fs) (hg : DG X F0 H0 tg bt vs) (hb : DSs X F0 H0 W body g)
    (hs : ∀ x, foldedSetIterable iter X.env x = pure x := by intro _; rfl) : DS X F0 H0 W (.For tg iter body [] pos) (gFor fs bt g) := by
  refine PS.imp (ps_for c.po c.calm hi hg hb hs) fun D σ H ⟨ρ, F, sr, q⟩ => ⟨ρ, F, sr, ?_⟩
  unfold gFor sE at q
  cases e : fs ρ with
  | exc x => simp only [e] at q; exact fun cls dd H1 F1 g r => q cls dd σ H1 F1 (sr.grow g) g.ff r
  | bad => simp only [e] at q; exact q
  | ok ds =>
    simp only [e] at q
    intro J H1 F1 g1 ok
    refine ⟨fun i m σ H => m = ds.length - i ∧ i ≤ ds.length ∧ ∃ ρ F, SR X.K F0 H0 ρ σ H F ∧ Ex F1 F ∧ Fin X.mg X.K F0 H0 W (forL bt g (ds.drop i) ρ) D F, ⟨ds.length, by simp, Nat.zero_le _, ρ, F1, sr.grow g1, .refl _, q.weak g1.ff⟩, ?_⟩
    rintro i m σ2 H2 ⟨rfl, hi, ρ2, F2, sr2, ex2, q2⟩
    by_cases hlt : i < ds.length
    · have hd : ds[i]? = some ds[i] := List.getElem?_eq_getElem hlt
      rw [List.drop_eq_getElem_cons hlt] at q2
      refine .inr ⟨ok.go i H2 (ex2.trans sr2.ex) hlt, fun σ' H' => ∃ ρ' F', SR X.K F0 H0 ρ' σ' H' F' ∧ Ex F1 F' ∧ Fin X.mg X.K F0 H0 W (forL bt g (ds.drop (i + 1)) ρ') D F', fun σ' H' ⟨ρ', F', a, b, c⟩ => ⟨ds.length - (i + 1), by omega, rfl, hlt, ρ', F', a, b, c⟩, fun x H' y => ?_⟩
      obtain ⟨F3, g3, dn⟩ := ok.yld i H2 x H' F2 _ ex2 sr2.ex hd y
      refine ⟨ρ2, F3, ds[i], sr2.grow g3, dn, ?_⟩
      have ex3 : Ex F1 F3 := ex2.trans g3.ff
      have q3 := q2.weak g3.ff
      simp only [forL] at q3
      cases e1 : bt ds[i] ρ2 with
      | none => simp only [e1] at q3; exact q3.elim
      | some ρ3 =>
        simp only [e1] at q3
        refine fun σ3 sr3 _ => ⟨ρ3, F3, sr3, ?_⟩
        cases e2 : g ρ3 with
        | nx ρ4 => simp only [e2] at q3; exact fun σ4 H4 F4 sr4 x4 => ⟨ρ4, F4, sr4, ex3.trans x4, q3.weak x4⟩
        | ct ρ4 => simp only [e2] at q3; exact fun σ4 H4 F4 sr4 x4 => ⟨ρ4, F4, sr4, ex3.trans x4, q3.weak x4⟩
        | bk ρ4 => simp only [e2] at q3; exact q3
        | rt d => simp only [e2] at q3; exact q3
        | exc x ρ4 => simp only [e2] at q3; exact q3
        | bad => simp only [e2] at q3; exact q3
    · have e3 : i = ds.length := by omega
      subst e3
      rw [List.drop_length] at q2
      exact .inl ⟨ok.stop _ H2 (ex2.trans sr2.ex) rfl, q2 σ2 H2 F2 sr2 (.refl _)⟩

/-! ### while, with a bound on its turns -/
def whileN (t : Sls → Res Bool) (body : Sls → Out) : Nat → Sls → Out
  | 0, _ => .bad
  | n + 1, ρ => match t ρ with
    | .bad => .bad
    | .exc x => .exc x ρ
    | .ok false => .nx ρ
    | .ok true => match body ρ with
      | .nx ρ2 => whileN t body n ρ2
      | .ct ρ2 => whileN t body n ρ2
      | .bk ρ2 => .nx ρ2
      | .rt d => .rt d
      | .exc x ρ2 => .exc x ρ2
      | .bad => .bad
theorem ds_while {cnd : Expr} {body : List Stmt} {t : Sls → Res Bool} {g : Sls → Out} {k : Nat} (n : Sls → Nat) (c : Cz X W k) (hc : DT X F0 H0 W cnd t) (hb : DSs X F0 H0 W body g) : DS X F0 H0 W (.While cnd body [] pos) (fun ρ => whileN t g (n ρ) ρ) := by
  refine PS.imp (ps_while c.po hc hb) fun D σ H ⟨ρ, F, sr, q⟩ => ?_
  refine ⟨fun m σ H => ∃ ρ F, SR X.K F0 H0 ρ σ H F ∧ Fin X.mg X.K F0 H0 W (whileN t g m ρ) D F, ⟨n ρ, ρ, F, sr, q⟩, ?_⟩
  rintro m σ1 H1 ⟨ρ1, F1, sr1, q1⟩
  cases m with
  | zero => exact q1.elim
  | succ m =>
    refine ⟨ρ1, F1, sr1, ?_⟩
    simp only [whileN] at q1
    cases e : t ρ1 with
    | bad => simp only [e] at q1; exact q1
    | exc x => simp only [e] at q1; exact fun cls dd H2 F2 g r => q1 cls dd σ1 H2 F2 (sr1.grow g) g.ff r
    | ok b =>
      intro v H2 F2 g2 r2
      obtain rfl : v = b := r2
      cases v with
      | false => simp only [e] at q1; simp only [Bool.false_eq_true, if_false]; exact q1 σ1 H2 F2 (sr1.grow g2) g2.ff
      | true =>
        simp only [e] at q1
        simp only [if_true]
        refine ⟨fun σ' H' => ∃ ρ' F', SR X.K F0 H0 ρ' σ' H' F' ∧ Fin X.mg X.K F0 H0 W (whileN t g m ρ') D F', fun σ' H' ⟨ρ', F', a, b⟩ => ⟨m, Nat.lt_succ_self _, ρ', F', a, b⟩, ρ1, F2, sr1.grow g2, ?_⟩
        have q2 := q1.weak g2.ff
        cases e2 : g ρ1 with
        | nx ρ4 => simp only [e2] at q2; exact fun σ4 H4 F4 sr4 x4 => ⟨ρ4, F4, sr4, q2.weak x4⟩
        | ct ρ4 => simp only [e2] at q2; exact fun σ4 H4 F4 sr4 x4 => ⟨ρ4, F4, sr4, q2.weak x4⟩
        | bk ρ4 => simp only [e2] at q2; exact q2
        | rt d => simp only [e2] at q2; exact q2
        | exc x ρ4 => simp only [e2] at q2; exact q2
        | bad => simp only [e2] at q2; exact q2

/-! ### comprehensions -/
def wipeS (ρ : Sls) : List Nat → Sls
  | [] => ρ
  | v :: vs => (wipeS ρ vs).set v .un
theorem SR.wipe1 {K : PySem.W.Frag} {σ : L2.St} {H F : Hp} {ρ : Sls} (r : SR K F0 H0 ρ σ H F) (i : Nat) : SR K F0 H0 (ρ.set i .un) (σ.set i none) H F := by
  have ow : ∀ j a, OwnAt (ρ.set i .un) (σ.set i none) j a → j ≠ i ∧ OwnAt ρ σ j a := fun j a ⟨⟨ds, e1⟩, e2⟩ => by
    by_cases hj : j = i
    · subst hj
      by_cases hl : j < ρ.length
      · rw [List.getElem?_set_self hl] at e1; cases e1
      · rw [List.getElem?_eq_none (by simpa using hl)] at e1; cases e1
    · rw [List.getElem?_set_ne (Ne.symm hj)] at e1 e2
      exact ⟨hj, ⟨ds, e1⟩, e2⟩
  refine ⟨r.gr, by simp [r.len], fun j s e => ?_, fun j a o => r.own0 j a (ow j a o).2, fun j k a o1 o2 => r.sep j k a (ow j a o1).2 (ow k a o2).2⟩
  by_cases hj : j = i
  · subst hj
    by_cases hl : j < ρ.length
    · rw [List.getElem?_set_self hl] at e; cases e
      exact True.intro
    · rw [List.getElem?_eq_none (by simpa using hl)] at e; cases e
  · rw [List.getElem?_set_ne (Ne.symm hj)] at e ⊢
    exact r.sl j s e
theorem SR.wipeAll {K : PySem.W.Frag} {σ : L2.St} {H F : Hp} {ρ : Sls} (r : SR K F0 H0 ρ σ H F) : ∀ vs : List Nat, SR K F0 H0 (wipeS ρ vs) (wipe σ vs) H F
  | [] => r
  | v :: vs => (SR.wipeAll r vs).wipe1 v
theorem wipe_sub {σ : L2.St} {vs : List Nat} : ∀ {us : List Nat}, (∀ i ∈ us, i ∈ vs) → wipe (wipe σ us) vs = wipe σ vs
  | [], _ => rfl
  | u :: us, h => by
    show wipe ((wipe σ us).set u none) vs = wipe σ vs
    rw [wipe_set (h u List.mem_cons_self)]
    exact wipe_sub fun i hi => h i (List.mem_cons_of_mem _ hi)
def tYesD : Sls → Res Bool := fun _ => .ok true
def DTs (X : Cx) (F0 H0 : Hp) (W : WX) (ifs : List Expr) (t : Sls → Res Bool) : Prop := PTs X ifs (rd X.mg X.K F0 H0 W REq t)
theorem PTs.imp {X : Cx} {e : List Expr} {t t' : TT} (h : PTs X e t) (k : ∀ σ H Q, t' σ H Q → t σ H Q) : PTs X e t' := ⟨fun pins s σ H Q I q => h.run pins s σ H Q I (k σ H Q q)⟩
theorem dts_nil : DTs X F0 H0 W [] tYesD := PTs.imp pts_nil fun σ H Q ⟨ρ, F, sr, q⟩ => q true H F (.refl sr.ex) rfl
theorem dts_one {t : Sls → Res Bool} (h : DT X F0 H0 W c t) : DTs X F0 H0 W [c] t := pts_one h
/-- what a comprehension makes -/
def compL (bt : PyData → Sls → Option Sls) (t : Sls → Res Bool) (f : Sls → Res PyData) (ρ : Sls) : List PyData → Res (List PyData)
  | [] => .ok []
  | d :: ds => match bt d ρ with
    | none => .bad
    | some ρ1 => match t ρ1 with
      | .ok true => match f ρ1 with
        | .ok y => compL bt t f ρ ds >>= fun ys => .ok (y :: ys)
        | _ => .bad
      | .ok false => compL bt t f ρ ds
      | _ => .bad
theorem compL_noexc {bt : PyData → Sls → Option Sls} {t : Sls → Res Bool} {f : Sls → Res PyData} {ρ : Sls} {x : Xn} : ∀ ds, compL bt t f ρ ds ≠ .exc x
  | [] => by intro h; cases h
  | d :: ds => by
    intro h
    simp only [compL] at h
    have ih := compL_noexc (bt := bt) (t := t) (f := f) (ρ := ρ) (x := x) ds
    cases e1 : bt d ρ with
    | none => simp only [e1] at h; cases h
    | some ρ1 =>
      simp only [e1] at h
      cases e2 : t ρ1 with
      | ok b =>
        simp only [e2] at h
        cases b with
        | true =>
          simp only at h
          cases e3 : f ρ1 with
          | ok y =>
            simp only [e3] at h
            cases e4 : compL bt t f ρ ds with
            | ok ys => simp only [e4, bind_ok] at h; cases h
            | exc z => simp only [e4, bind_exc] at h; cases h; exact ih e4
            | bad => simp only [e4, bind_bad] at h; cases h
          | exc z => simp only [e3] at h; cases h
          | bad => simp only [e3] at h; cases h
        | false => exact ih h
      | exc z => simp only [e2] at h; cases h
      | bad => simp only [e2] at h; cases h
def dLc (fs : Sls → Res (List PyData)) (bt : PyData → Sls → Option Sls) (t : Sls → Res Bool) (f : Sls → Res PyData) (vs : List Nat) (ρ : Sls) : Res (List PyData) :=
  fs ρ >>= fun ds => if ds.length ≤ 16777216 then compL bt t f (wipeS ρ vs) ds else .bad
theorem lc_run {fi : Sls → Res (List PyData)} {bt : PyData → Sls → Option Sls} {t : Sls → Res Bool} {fe : Sls → Res PyData} {vs : List Nat} {σ : L2.St} {H : Hp} {Q : VK} {ws : List Nat} (hw : ∀ i ∈ ws, i ∈ vs)
    (h : nOf F0 H0 W X.mg X.K (dLc fi bt t fe vs) σ H Q) : tLc (iOf X.mg X.K F0 H0 W fi) (gOf X.K F0 H0 bt ws) (rd X.mg X.K F0 H0 WF REq t) (rd X.mg X.K F0 H0 WF (Den X.K) fe) vs σ H Q := by
  obtain ⟨ρ, F, sr, q⟩ := h
  refine ⟨ρ, F, sr, ?_⟩
  unfold dLc at q
  cases e : fi ρ with
  | exc x => simp only [e, bind_exc] at q; exact q
  | bad => simp only [e, bind_bad] at q
  | ok ds =>
    simp only [e, bind_ok] at q
    by_cases hz : ds.length ≤ 16777216
    case neg => simp only [hz, if_false] at q
    simp only [hz, if_true] at q
    intro J H1 F1 g1 ok D hD
    have hD0 : H D = none := not_of_none g1.hh hD
    have sr1 := sr.grow g1
    refine ⟨fun i m Hi => m = ds.length - i ∧ i ≤ ds.length ∧ ∃ H' F' acc accD, Gr F1 H1 F' H' ∧ H' D = none ∧ F' D = none ∧ Hi = upd H' D (.lst acc) ∧ acc.length ≤ i ∧ Dens X.K F' acc accD ∧
        (match compL bt t fe (wipeS ρ vs) (ds.drop i) with
          | .ok r => ∀ a xs H2 F2, Gr F H F2 H2 → H a = none → H2 a = some (.lst xs) → F2 a = none → Dens X.K F2 xs (accD ++ r) → Q (.ref a) H2
          | _ => False), ⟨ds.length, by simp, Nat.zero_le _, H1, F1, [], [], .refl g1.fh, hD, not_of_none g1.fh hD, rfl, Nat.le_refl _, .nil, ?_⟩, ?_⟩
    · rw [List.drop_zero]
      cases e2 : compL bt t fe (wipeS ρ vs) ds with
      | ok r => rw [e2] at q; simpa using q
      | exc x => exact absurd e2 (compL_noexc ds)
      | bad => rw [e2] at q; exact q
    · rintro i m Hi ⟨rfl, hi, H', F', acc, accD, g2, hn, hFn, rfl, hacc, dacc, q2⟩
      have grD : Gr F' H' F' (upd H' D (.lst acc)) := Gr.newO g2.fh hn
      by_cases hlt : i < ds.length
      · have hd : ds[i]? = some ds[i] := List.getElem?_eq_getElem hlt
        rw [List.drop_eq_getElem_cons hlt] at q2
        refine .inr ⟨ok.go i _ (g2.ff.trans grD.fh) hlt, fun Hi => i + 1 ≤ ds.length ∧ ∃ H' F' acc accD, Gr F1 H1 F' H' ∧ H' D = none ∧ F' D = none ∧ Hi = upd H' D (.lst acc) ∧ acc.length ≤ i + 1 ∧ Dens X.K F' acc accD ∧
          (match compL bt t fe (wipeS ρ vs) (ds.drop (i + 1)) with
            | .ok r => ∀ a xs H2 F2, Gr F H F2 H2 → H a = none → H2 a = some (.lst xs) → F2 a = none → Dens X.K F2 xs (accD ++ r) → Q (.ref a) H2
            | _ => False), fun Hi ⟨hj, rest⟩ => ⟨ds.length - (i + 1), by omega, rfl, hj, rest⟩, fun x H3 y => ?_⟩
        obtain ⟨F3, g3, dn⟩ := ok.yld i _ x H3 F' _ g2.ff grD.fh hd y
        -- the slots of the block
        have srB : SR X.K F0 H0 (wipeS ρ vs) (wipe σ vs) H3 F3 := ((sr1.wipeAll vs).grow (g2.trans grD)).grow g3
        refine ⟨wipeS ρ vs, F3, ds[i], srB, dn, ?_⟩
        simp only [compL] at q2
        cases e1 : bt ds[i] (wipeS ρ vs) with
        | none => simp only [e1] at q2
        | some ρ3 =>
          simp only [e1] at q2
          refine fun σ3 sr3 hwp => ⟨(hwp vs hw).trans (wipe_sub fun _ h => h), ρ3, F3, sr3, ?_⟩
          -- the heap without the list
          have back : ∀ {Hx Fx : Hp}, Gr F3 H3 Fx Hx → ∃ Hy, Gr F1 H1 Fx Hy ∧ Hy D = none ∧ Fx D = none ∧ Hx = upd Hy D (.lst acc) := fun {Hx Fx} gx => by
            have nD : Fx D = none := gx.nf D (g3.nf D hFn (by rw [upd_same]; simp)) (by rw [g3.hh D _ upd_same]; simp)
            have eD : Hx D = some (.lst acc) := gx.hh D _ (g3.hh D _ upd_same)
            refine ⟨fun b => if b = D then none else Hx b, ⟨g2.ff.trans (g3.ff.trans gx.ff), fun b o z => ?_, fun b o z => ?_, fun b z1 z2 => ?_, fun b ob u z1 z2 => ((g2.trans grD).trans (g3.trans gx)).nz b ob u z1 z2⟩, if_pos rfl, nD, ?_⟩
            · have hb : b ≠ D := fun w => by rw [w, hD] at z; cases z
              show (if b = D then none else Hx b) = some o
              rw [if_neg hb]
              exact gx.hh _ _ (g3.hh _ _ (grD.hh _ _ (g2.hh _ _ z)))
            · have hb : b ≠ D := fun w => by rw [w, nD] at z; cases z
              show (if b = D then none else Hx b) = some o
              rw [if_neg hb]
              exact gx.fh _ _ z
            · have y1 := g2.nf b z1 z2
              have z3 : H' b ≠ none := fun w => by
                cases w2 : H1 b with
                | none => exact z2 w2
                | some o => rw [g2.hh b o w2] at w; cases w
              have z4 : upd H' D (.lst acc) b ≠ none := fun w => by
                by_cases hb : b = D
                · rw [hb, upd_same] at w; cases w
                · rw [upd_ne hb] at w; exact z3 w
              have y2 := g3.nf b y1 z4
              exact gx.nf b y2 fun w => z4 (by
                cases w2 : upd H' D (.lst acc) b with
                | none => rfl
                | some o => rw [g3.hh b o w2] at w; cases w)
            · funext b
              show Hx b = if b = D then some (HO.lst acc) else if b = D then none else Hx b
              by_cases hb : b = D
              · rw [if_pos hb, hb]; exact eD
              · rw [if_neg hb, if_neg hb]
          cases e2 : t ρ3 with
          | exc x => simp only [e2] at q2
          | bad => simp only [e2] at q2
          | ok b =>
            simp only [e2] at q2
            intro v H4 F4 g4 r4
            obtain rfl : v = b := r4
            cases v with
            | false =>
              simp only [Bool.false_eq_true, if_false] at q2 ⊢
              obtain ⟨Hy, gy, hy, fy, rfl⟩ := back g4
              exact ⟨hlt, Hy, F4, acc, accD, gy, hy, fy, rfl, Nat.le_succ_of_le hacc, (dacc.mono g3.ff).mono g4.ff, q2⟩
            | true =>
              simp only [if_true] at q2 ⊢
              refine ⟨ρ3, F4, sr3.grow g4, ?_⟩
              cases e3 : fe ρ3 with
              | exc x => simp only [e3] at q2
              | bad => simp only [e3] at q2
              | ok z =>
                simp only [e3] at q2
                intro u H5 F5 g5 r5
                obtain ⟨Hy, gy, hy, fy, rfl⟩ := back (g4.trans g5)
                refine ⟨acc, upd_same, by rw [line24]; omega, hlt, Hy, F5, acc ++ [u], accD ++ [z], gy, hy, fy, upd_upd, by rw [List.length_append]; exact Nat.succ_le_succ hacc, (((dacc.mono g3.ff).mono g4.ff).mono g5.ff).append (.cons r5 .nil), ?_⟩
                cases e4 : compL bt t fe (wipeS ρ vs) (ds.drop (i + 1)) with
                | ok r => rw [e4] at q2; simp only [bind_ok] at q2; simpa using q2
                | exc x => rw [e4] at q2; simp only [bind_exc] at q2
                | bad => rw [e4] at q2; simp only [bind_bad] at q2
      · have e3 : i = ds.length := by omega
        subst e3
        rw [List.drop_length] at q2
        simp only [compL, List.append_nil] at q2
        refine .inl ⟨ok.stop _ _ (g2.ff.trans grD.fh) rfl, ?_⟩
        exact q2 D acc _ F' (g1.trans (g2.trans grD)) hD0 upd_same hFn dacc
theorem dn_lc {elt iter : Expr} {ifs : List Expr} {scope : Scope} {own : List (Str × Nat)} {fi : Sls → Res (List PyData)} {bt : PyData → Sls → Option Sls} {t : Sls → Res Bool} {fe : Sls → Res PyData} {ws : List Nat} {k : Nat} (c : Cz X W k) (hN : X.N.Nodup) (hi : DI X F0 H0 W tg iter fi) (ok : BlkOk X.N X.env.scope scope own)
    (hw : ∀ i ∈ ws, i ∈ own.map (·.2))
    (hg : ∀ (s : Shared) (H : Hp) (C : Addr) (cl : List (Str × Addr)) (fp : List Addr), Cz (X.blk s H scope (compEnvC scope cl C X.env) fp) WF k → DG (X.blk s H scope (compEnvC scope cl C X.env) fp) F0 H0 tg bt ws)
    (ht : ∀ (s : Shared) (H : Hp) (C : Addr) (cl : List (Str × Addr)) (fp : List Addr), Cz (X.blk s H scope (compEnvC scope cl C X.env) fp) WF k → DTs (X.blk s H scope (compEnvC scope cl C X.env) fp) F0 H0 WF ifs t)
    (he : ∀ (s : Shared) (H : Hp) (C : Addr) (cl : List (Str × Addr)) (fp : List Addr), Cz (X.blk s H scope (compEnvC scope cl C X.env) fp) WF k → DE (X.blk s H scope (compEnvC scope cl C X.env) fp) F0 H0 WF elt fe) (hs : ∀ x, foldedSetIterable iter X.env x = pure x := by intro _; rfl) :
    DN X F0 H0 W (.ListComp elt [⟨tg, iter, ifs, 0⟩] scope pos) (dLc fi bt t fe (own.map (·.2))) :=
  PE.imp (pe_lc (g := gOf X.K F0 H0 bt ws) (tt := rd X.mg X.K F0 H0 WF REq t) (te := rd X.mg X.K F0 H0 WF (Den X.K) fe) c.calm hN hi ok (fun s H C cl fp => hg s H C cl fp (c.blk ..)) (fun s H C cl fp => ht s H C cl fp (c.blk ..)) (fun s H C cl fp => he s H C cl fp (c.blk ..)) hs) fun _ _ _ h => lc_run hw h
/-- y = [..] -/
theorem ds_lcN {i : Nat} {y : Str} {py spos : Pos} {elt iter : Expr} {ifs : List Expr} {scope : Scope} {own : List (Str × Nat)} {fi : Sls → Res (List PyData)} {bt : PyData → Sls → Option Sls} {t : Sls → Res Bool} {fe : Sls → Res PyData} {ws : List Nat} {k : Nat} (c : Cz X W k) (hN : X.N.Nodup) (hy : X.N[i]? = some y) (hyl : X.env.scope.names.lookup y = some .local)
    (hsw : swapsWith (.ListComp elt [⟨tg, iter, ifs, 0⟩] scope pos) (some (.Name y py)) spos.line X.env = pure true) (hi : DI X F0 H0 W tg iter fi) (ok : BlkOk X.N X.env.scope scope own)
    (hw : ∀ i ∈ ws, i ∈ own.map (·.2))
    (hg : ∀ (s : Shared) (H : Hp) (C : Addr) (cl : List (Str × Addr)) (fp : List Addr), Cz (X.blk s H scope (compEnvC scope cl C X.env) fp) WF k → DG (X.blk s H scope (compEnvC scope cl C X.env) fp) F0 H0 tg bt ws)
    (ht : ∀ (s : Shared) (H : Hp) (C : Addr) (cl : List (Str × Addr)) (fp : List Addr), Cz (X.blk s H scope (compEnvC scope cl C X.env) fp) WF k → DTs (X.blk s H scope (compEnvC scope cl C X.env) fp) F0 H0 WF ifs t)
    (he : ∀ (s : Shared) (H : Hp) (C : Addr) (cl : List (Str × Addr)) (fp : List Addr), Cz (X.blk s H scope (compEnvC scope cl C X.env) fp) WF k → DE (X.blk s H scope (compEnvC scope cl C X.env) fp) F0 H0 WF elt fe) (hs : ∀ x, foldedSetIterable iter X.env x = pure x := by intro _; rfl) :
    DS X F0 H0 W (.Assign [.Name y py] (.ListComp elt [⟨tg, iter, ifs, 0⟩] scope pos) spos) (gSetN i (dLc fi bt t fe (own.map (·.2)))) :=
  PS.imp (ps_setLc (g := gOf X.K F0 H0 bt ws) (tt := rd X.mg X.K F0 H0 WF REq t) (te := rd X.mg X.K F0 H0 WF (Den X.K) fe) c.calm hN hy hyl hsw hi ok (fun s H C cl fp => hg s H C cl fp (c.blk ..)) (fun s H C cl fp => ht s H C cl fp (c.blk ..)) (fun s H C cl fp => he s H C cl fp (c.blk ..)) hs) fun D σ H ⟨ρ, F, sr, q⟩ => lc_run hw (fin_n sr q)
/-- the same, at once data -/
def gFrz (i : Nat) (g : Sls → Out) (ρ : Sls) : Out := match g ρ with
  | .nx ρ' => .nx (frz i ρ')
  | o => o
theorem DS.post {st : Stmt} {g : Sls → Out} (i : Nat) (h : DS X F0 H0 W st g) : DS X F0 H0 W st (gFrz i g) := PS.imp h fun D σ H ⟨ρ, F, sr, q⟩ => ⟨ρ, F, sr, by
  unfold gFrz at q
  cases e : g ρ with
  | nx ρ' =>
    simp only [e] at q
    intro σ' H' F' sr' x
    obtain ⟨F2, x2, sr2⟩ := frz_sr i sr'
    exact q σ' H' F2 sr2 (x.trans x2)
  | rt d => simp only [e] at q; exact q
  | bk ρ' => simp only [e] at q; exact q
  | ct ρ' => simp only [e] at q; exact q
  | exc x ρ' => simp only [e] at q; exact q
  | bad => simp only [e] at q; exact q⟩
end
end DL

/-! DL6: calls of defs, a def's body, methods of texts. -/
namespace DL
open PySem PySem.Spec PyProof.Rows L2

/-- a def's promise by a function of data -/
def spD (mg : Str → Option Value) (K : PySem.W.Frag) (n : Nat) (Fn : List PyData → Res PyData) : Sp := fun vs H Q E => ∃ ds Fz, vs.length = n ∧ Ex Fz H ∧ Dens K Fz vs ds ∧ match Fn ds with
  | .ok d => ∀ v H' F', Gr Fz H F' H' → Den K F' v d → Q v H'
  | .exc x => ∀ cls dd H' F', Gr Fz H F' H' → ExR mg x cls dd H' F' → E cls dd H'
  | .bad => False
/-- the def at f keeps to Fn, within k levels -/
abbrev FnD (P : Program) (w : World) (K : PySem.W.Frag) (mg : Str → Option Value) (base : Heap) (k : Nat) (f : Addr) (fd : FuncData) (ps : List Str) (Fn : List PyData → Res PyData) : Prop :=
  FnOk P w K mg base (L2.CX P w) k f fd ps (spD mg K ps.length Fn)
section
variable {X : Cx} {F0 H0 : Hp} {W : WX} {pos p : Pos} {e : Expr} {es : List Expr} {fs : Sls → Res (List PyData)} {k j : Nat} {f : Addr} {fd : FuncData} {ps : List Str} {Fn : List PyData → Res PyData} {x : Str}
def dCall (Fn : List PyData → Res PyData) (fs : Sls → Res (List PyData)) (ρ : Sls) : Res PyData := fs ρ >>= Fn
theorem call_run {σ : L2.St} {H : Hp} {Q : VK} {n : Nat} (hn : ∀ ρ ds, fs ρ = .ok ds → ds.length = n) (h : rd X.mg X.K F0 H0 W (Den X.K) (dCall Fn fs) σ H Q) :
    tCallS (spD X.mg X.K n Fn) (WE W) (rd X.mg X.K F0 H0 W (Dens X.K) fs) σ H Q := by
  obtain ⟨ρ, F, sr, q⟩ := h
  refine ⟨ρ, F, sr, ?_⟩
  unfold dCall at q
  cases e : fs ρ with
  | ok ds =>
    simp only [e, bind_ok] at q
    intro v H1 F1 g1 r1
    refine ⟨ds, F1, by rw [r1.length]; exact hn ρ ds e, g1.fh, r1, ?_⟩
    cases e2 : Fn ds with
    | ok d => rw [e2] at q; exact fun v H' F' g r => q v H' F' (g1.trans g) r
    | exc x => rw [e2] at q; exact fun cls dd H' F' g r => q cls dd H' F' (g1.trans g) r
    | bad => rw [e2] at q; exact q
  | exc x => simp only [e, bind_exc] at q; exact q
  | bad => simp only [e, bind_bad] at q; exact q
theorem de_call (G : FnD X.prog X.w X.K X.mg X.base j f fd ps Fn) (c : Cz X W k) (hj : j ≤ k) (hg : Gl X x) (hm : X.mg x = some (.ref f)) (hk : PySem.W.keepIn X.K (.ref f) = true) (hb : Binds X.K fd ps []) (ha : DA X F0 H0 W (e :: es) fs)
    (hn : ∀ ρ ds, fs ρ = .ok ds → ds.length = ps.length) (hdb : (x == ("__debug__" : Str)) = false := by decide) (he : starEach (e :: es) X.env = (false, eval e X.env) :: starEach es X.env := by rfl) (hpl : (backTo pos (starEach es X.env)).any (·.1) = false := by rfl) :
    DE X F0 H0 W (.Call (.Name x p) (e :: es) [] pos) (dCall Fn fs) :=
  PE.imp (pe_callS G (c.room.mono hj) hg hm hk hb (fun σ => passAt c.tk σ) ha hdb he hpl) fun _ _ _ h => call_run hn h
theorem de_call0 (G : FnD X.prog X.w X.K X.mg X.base j f fd [] Fn) (c : Cz X W k) (hj : j ≤ k) (hg : Gl X x) (hm : X.mg x = some (.ref f)) (hk : PySem.W.keepIn X.K (.ref f) = true) (hb : Binds X.K fd [] []) (hdb : (x == ("__debug__" : Str)) = false := by decide) :
    DE X F0 H0 W (.Call (.Name x p) [] [] pos) (fun _ => Fn []) := by
  refine ⟨fun pins s σ H Q I h => ?_⟩
  refine wpAny_Call_Name_kw (ld_glob I hg hm ?_ hdb)
  obtain ⟨ρ, F, sr, q⟩ := h
  refine PySem.W.callWith_K0 I.kIn hk (run_fnS (us := []) (vs := []) (E := WE W) G (c.room.mono hj) hb (passAt c.tk σ) I .nil ?_)
  refine ⟨[], F, rfl, sr.ex, .nil, ?_⟩
  cases e2 : Fn [] with
  | ok d => simp only [e2] at q; exact q
  | exc x => simp only [e2] at q; exact q
  | bad => simp only [e2] at q; exact q
/-- the number of arguments -/
theorem dCons_len {f : Sls → Res PyData} {fs : Sls → Res (List PyData)} {n : Nat} (h : ∀ ρ ds, fs ρ = .ok ds → ds.length = n) : ∀ ρ ds, dCons f fs ρ = .ok ds → ds.length = n + 1 := fun ρ ds e => by
  unfold dCons at e
  cases e1 : f ρ with
  | ok d =>
    simp only [e1, bind_ok] at e
    cases e2 : fs ρ with
    | ok es =>
      simp only [e2, bind_ok] at e
      cases e
      rw [List.length_cons, h ρ es e2]
    | exc x => simp only [e2, bind_exc] at e; cases e
    | bad => simp only [e2, bind_bad] at e; cases e
  | exc x => simp only [e1, bind_exc] at e; cases e
  | bad => simp only [e1, bind_bad] at e; cases e
theorem nil_len : ∀ (ρ : Sls) (ds : List PyData), (fun _ => .ok [] : Sls → Res (List PyData)) ρ = .ok ds → ds.length = 0 := fun ρ ds e => by cases e; rfl
end
/-! ### a def's body -/
def st0 (N : List Str) (ds : List PyData) : Sls := ds.map Sl.val ++ List.replicate (N.length - ds.length) Sl.un
def outR : Out → Res PyData
  | .rt d => .ok d
  | .nx _ => .ok .none
  | .exc x _ => .exc x
  | _ => .bad
theorem dens_sl {K : PySem.W.Frag} {F : Hp} : ∀ {vs : List V} {ds : List PyData}, Dens K F vs ds → ∀ (i : Nat) (n : Nat) (m : Nat) (s : Sl), (ds.map Sl.val ++ List.replicate n Sl.un)[i]? = some s → ∀ H, SlOk K H F (vs.map some ++ List.replicate m none)[i]? s
  | _, _, .nil, i, n, m, s, e, H => by
    rw [List.map_nil, List.nil_append, List.getElem?_replicate] at e
    split at e
    · cases e; exact True.intro
    · cases e
  | _, _, .cons h q, 0, n, m, s, e, H => by
    cases e
    exact ⟨_, rfl, h⟩
  | _, _, .cons h q, i + 1, n, m, s, e, H => dens_sl q i n m s e H
theorem st0_sr {K : PySem.W.Frag} {H Fz : Hp} {vs : List V} {ds : List PyData} (N : List Str) (hl : ds.length ≤ N.length) (e : Ex Fz H) (d : Dens K Fz vs ds) : SR K Fz H (st0 N ds) (L2.start N vs) H Fz := by
  have noOwn : ∀ i a, ¬ OwnAt (st0 N ds) (L2.start N vs) i a := fun i a ⟨⟨xs, e1⟩, _⟩ => by
    unfold st0 at e1
    by_cases hi : i < ds.length
    · rw [List.getElem?_append_left (by simpa using hi), List.getElem?_map, List.getElem?_eq_getElem hi] at e1
      cases e1
    · rw [List.getElem?_append_right (by simpa using hi), List.getElem?_replicate] at e1
      split at e1 <;> cases e1
  refine ⟨.refl e, ?_, fun i s h => ?_, fun i a o => absurd o (noOwn i a), fun i j a o _ => absurd o (noOwn i a)⟩
  · unfold st0 L2.start
    have := d.length
    simp only [List.length_append, List.length_map, List.length_replicate]
    omega
  · unfold st0 at h
    unfold L2.start
    exact dens_sl d i _ _ s h H
section
variable {P : Program} {w : World} {K : PySem.W.Frag} {mg : Str → Option Value} {base : Heap} {x qual : Str} {st : Stmt} {f : Addr} {fd : FuncData} {N ps : List Str} {k : Nat} {Fn : List PyData → Res PyData} {g : Sls → Out}
/-- THE RULE for a def: its body by a function of the slots, which is Fn -/
theorem fn_D (Fu : Fun K x qual st f fd) (S : FnScope N ps (defScope st)) (hN : ps.length ≤ N.length)
    (hb : ∀ (cdv : Value) (A : Around) (outer : List PySem.Env) (s : Shared) (H : Hp) (E : XK) (Fz : Hp),
      Cz (cxOf (L2.CX P w) P w K mg base N qual (defScope st) f cdv A outer s H E) (fun cls dd _ H' => E cls dd H') k → DSs (cxOf (L2.CX P w) P w K mg base N qual (defScope st) f cdv A outer s H E) Fz H (fun cls dd _ H' => E cls dd H') (defBody st) g)
    (hF : ∀ ds, ds.length = ps.length → Fn ds = .bad ∨ outR (g (st0 N ds)) = Fn ds) : FnD P w K mg base (k + 1) f fd ps Fn := by
  refine Fu.okX S (fun vs H Q E h => ?_) (fun cdv A outer s H vs Q E hr h => ?_)
  · obtain ⟨ds, Fz, hl, _⟩ := h
    exact hl
  · obtain ⟨ds, Fz, hl, ex, dn, q⟩ := h
    have hlen : ds.length = ps.length := by rw [← dn.length]; exact hl
    refine ⟨_, hb cdv A outer s H E Fz ⟨rfl, takes_of rfl rfl rfl rfl, passes_of rfl, hr⟩, st0 N ds, Fz, st0_sr N (by omega) ex dn, ?_⟩
    rcases hF ds hlen with e | e
    · rw [e] at q; exact q.elim
    · rw [← e] at q
      cases e2 : g (st0 N ds) with
      | nx ρ' => simp only [e2, outR] at q; exact fun σ' H' F' sr' x => q .non H' F' sr'.gr .non
      | rt d => simp only [e2, outR] at q; exact fun v H' F' gr x r => q v H' F' gr r
      | bk ρ' => simp only [e2, outR] at q
      | ct ρ' => simp only [e2, outR] at q
      | exc y ρ' => simp only [e2, outR] at q; exact fun cls dd σ' H' F' sr' x r => q cls dd H' F' sr'.gr r
      | bad => simp only [e2, outR] at q
theorem FnD.mono {j : Nat} (G : FnD P w K mg base j f fd ps Fn) (h : j ≤ k) : FnD P w K mg base k f fd ps Fn := FnOk.mono G h
/-- another function that says no more -/
theorem FnD.imp {Fn' : List PyData → Res PyData} (G : FnD P w K mg base k f fd ps Fn) (h : ∀ ds, ds.length = ps.length → Fn' ds = .bad ∨ Fn ds = Fn' ds) : FnD P w K mg base k f fd ps Fn' := FnOk.imp G fun vs H Q E ⟨ds, Fz, hl, ex, dn, q⟩ => by
  refine ⟨ds, Fz, hl, ex, dn, ?_⟩
  rcases h ds (by rw [← dn.length]; exact hl) with e | e
  · rw [e] at q; exact q.elim
  · rw [e]; exact q
end
/-! ### methods of texts -/
section
variable {X : Cx} {F0 H0 : Hp} {W : WX} {o e : Expr} {es : List Expr} {f : Sls → Res PyData} {fs : Sls → Res (List PyData)} {name : Str} {apos cpos : Pos} {id : String}
def dM (g : PyData → List PyData → Option PyData) (f : Sls → Res PyData) (fs : Sls → Res (List PyData)) (ρ : Sls) : Res PyData := f ρ >>= fun x => match x with
  | .str z => fs ρ >>= fun xs => ofO (g (.str z) xs)
  | _ => .bad
theorem de_sm {g : PyData → List PyData → Option PyData} (slot : Slot "str" name id) (hty : typeOf (.builtin id) = pure (.type "method_descriptor")) (hm : MtR X id (rM X.K g)) (ho : DE X F0 H0 W o f) (ha : DA X F0 H0 W (e :: es) fs)
    (hbase : attributeBase o name X.env (eval o X.env) = eval o X.env := by rfl)
    (hfew : ((backTo cpos (starEach (e :: es) X.env)).all (fun x => !x.1) && (backToKw cpos (keywordEach [] X.env)).all (fun x => x.1.isSome)
      && decide ((e :: es).length + ([] : List Keyword).length + (if ([] : List Keyword).isEmpty then 0 else 1) < 30)) = true := by rfl)
    (hline : (apos.endLine == cpos.line) = true := by rfl) (hs : starEach (e :: es) X.env = (false, eval e X.env) :: starEach es X.env := by rfl) (hplain : (backTo cpos (starEach es X.env)).any (·.1) = false := by rfl) :
    DE X F0 H0 W (.Call (.Attribute o name apos) (e :: es) [] cpos) (dM g f fs) := by
  refine PE.imp (pe_bm PySem.F.plainAttrs_str slot hty hm ho ha hbase hfew hline hs hplain) fun σ H Q ⟨ρ, F, sr, q⟩ => ?_
  obtain ⟨ρ1, F1, sr1, q1⟩ := rd_step (R := Den X.K) sr q
  refine ⟨ρ1, F1, sr1, q1.imp fun v H1 F2 a g1 r1 k => ?_⟩
  obtain ⟨a', F3, g3, r3, sr3, q3⟩ := k v H1 F2 (.refl g1.fh) r1
  cases r3 with
  | str z =>
    refine ⟨rfl, ?_⟩
    obtain ⟨ρ4, F4, sr4, q4⟩ := rd_step (R := Dens X.K) sr3 q3
    refine ⟨ρ4, F4, sr4, q4.imp fun u H5 F5 b g5 r5 k5 => ?_⟩
    obtain ⟨b', F6, g6, r6, sr6, q6⟩ := k5 u H5 F5 (.refl g5.fh) r5
    exact ⟨.str z, b', F6, sr6.ex, .str z, r6, q6.rop⟩
  | _ => exact q3.elim
theorem de_sm0 {g : PyData → List PyData → Option PyData} (slot : Slot "str" name id) (hty : typeOf (.builtin id) = pure (.type "method_descriptor")) (hm : MtR X id (rM X.K g)) (ho : DE X F0 H0 W o f)
    (hbase : attributeBase o name X.env (eval o X.env) = eval o X.env := by rfl) (hline : (apos.endLine == cpos.line) = true := by rfl) :
    DE X F0 H0 W (.Call (.Attribute o name apos) [] [] cpos) (dM g f (fun _ => .ok [])) := by
  refine PE.imp (pe_bm0 PySem.F.plainAttrs_str slot hty hm ho hbase hline) fun σ H Q ⟨ρ, F, sr, q⟩ => ?_
  obtain ⟨ρ1, F1, sr1, q1⟩ := rd_step (R := Den X.K) sr q
  refine ⟨ρ1, F1, sr1, q1.imp fun v H1 F2 a g1 r1 k => ?_⟩
  obtain ⟨a', F3, g3, r3, sr3, q3⟩ := k v H1 F2 (.refl g1.fh) r1
  cases r3 with
  | str z => exact ⟨rfl, .str z, [], F3, sr3.ex, .str z, .nil, Rest.rop q3⟩
  | _ => exact q3.elim
def strsOf : List PyData → Option (List Str)
  | [] => some []
  | .str x :: r => (strsOf r).map (x :: ·)
  | _ :: _ => none
theorem strsOf_map (ys : List Str) : strsOf (ys.map PyData.str) = some ys := by
  induction ys with
  | nil => rfl
  | cons y ys ih => rw [List.map_cons]; simp only [strsOf, ih, Option.map_some]
theorem strsOf_eq : ∀ {ds : List PyData} {ys : List Str}, strsOf ds = some ys → ds = ys.map PyData.str
  | [], ys, h => by cases h; rfl
  | d :: ds, ys, h => by
    cases d with
    | str x =>
      simp only [strsOf] at h
      cases e : strsOf ds with
      | none => rw [e] at h; cases h
      | some zs =>
        rw [e] at h
        cases h
        rw [strsOf_eq e]
        rfl
    | _ => cases h
def joinS (sep : Str) (ds : List PyData) : Option PyData := (strsOf ds).bind fun ys => if (ys.map (·.length)).sum + ys.length * sep.length ≤ 16777216 then some (.str (Txt.join sep ys)) else none
def joinD (a : PyData) (as : List PyData) : Option PyData := match a, as with
  | .str sep, [.list ds] => joinS sep ds
  | .str sep, [.tuple ds] => joinS sep ds
  | _, _ => none
theorem mt_joinD {X : Cx} : MtR X "str.join" (rM X.K joinD) := by
  intro pins s σ H x xs v us Q I rx rs h
  obtain ⟨a, as, F, ex, da, das, q⟩ := h
  cases da with
  | str sep =>
    cases das with
    | nil => exact q.elim
    | cons d1 d2 =>
      cases d2 with
      | cons _ _ => cases d1 <;> exact q.elim
      | nil =>
        cases d1 with
        | @lst p xs ds h1 h2 =>
          have q' : Rop X.K (joinS sep ds) H F Q := q
          unfold joinS at q'
          cases e : strsOf ds with
          | none => rw [e] at q'; exact q'.elim
          | some ys =>
            rw [e] at q'
            simp only [Option.bind_some] at q'
            by_cases hz : (ys.map (·.length)).sum + ys.length * sep.length ≤ 16777216
            · rw [if_pos hz] at q'
              have e2 := strsOf_eq e
              subst e2
              have e3 := h2.strs
              subst e3
              exact mt_join pins s σ H _ _ v us Q I rx rs ⟨sep, p, ys, rfl, rfl, .inl (ex.sl h1), hz, q'.val ex (.str _)⟩
            · rw [if_neg hz] at q'; exact q'.elim
        | @tup p xs ds h1 h2 =>
          have q' : Rop X.K (joinS sep ds) H F Q := q
          unfold joinS at q'
          cases e : strsOf ds with
          | none => rw [e] at q'; exact q'.elim
          | some ys =>
            rw [e] at q'
            simp only [Option.bind_some] at q'
            by_cases hz : (ys.map (·.length)).sum + ys.length * sep.length ≤ 16777216
            · rw [if_pos hz] at q'
              have e2 := strsOf_eq e
              subst e2
              have e3 := h2.strs
              subst e3
              exact mt_join pins s σ H _ _ v us Q I rx rs ⟨sep, p, ys, rfl, rfl, .inr (ex.st h1), hz, q'.val ex (.str _)⟩
            · rw [if_neg hz] at q'; exact q'.elim
        | _ => exact q.elim
  | _ => exact q.elim
def upperD (a : PyData) (as : List PyData) : Option PyData := match a, as with
  | .str x, [] => if x.length ≤ 5592405 then some (.str (Txt.upper x)) else none
  | _, _ => none
def lowerD (a : PyData) (as : List PyData) : Option PyData := match a, as with
  | .str x, [] => if x.length ≤ 5592405 then some (.str (Txt.lower x)) else none
  | _, _ => none
def startsD (a : PyData) (as : List PyData) : Option PyData := match a, as with
  | .str x, [.str y] => some (.bool (Txt.startswith x y))
  | _, _ => none
theorem mt_upperD {X : Cx} : MtR X "str.upper" (rM X.K upperD) := by
  intro pins s σ H x xs v us Q I rx rs h
  obtain ⟨a, as, F, ex, da, das, q⟩ := h
  cases da with
  | str z =>
    cases das with
    | nil =>
      have q' : Rop X.K (if z.length ≤ 5592405 then some (.str (Txt.upper z)) else none) H F Q := q
      by_cases hz : z.length ≤ 5592405
      · rw [if_pos hz] at q'
        exact mt_upper pins s σ H _ _ v us Q I rx rs ⟨z, rfl, rfl, hz, q'.val ex (.str _)⟩
      · rw [if_neg hz] at q'; exact q'.elim
    | cons _ _ => exact q.elim
  | _ => exact q.elim
theorem mt_lowerD {X : Cx} : MtR X "str.lower" (rM X.K lowerD) := by
  intro pins s σ H x xs v us Q I rx rs h
  obtain ⟨a, as, F, ex, da, das, q⟩ := h
  cases da with
  | str z =>
    cases das with
    | nil =>
      have q' : Rop X.K (if z.length ≤ 5592405 then some (.str (Txt.lower z)) else none) H F Q := q
      by_cases hz : z.length ≤ 5592405
      · rw [if_pos hz] at q'
        exact mt_lower pins s σ H _ _ v us Q I rx rs ⟨z, rfl, rfl, hz, q'.val ex (.str _)⟩
      · rw [if_neg hz] at q'; exact q'.elim
    | cons _ _ => exact q.elim
  | _ => exact q.elim
theorem mt_startsD {X : Cx} : MtR X "str.startswith" (rM X.K startsD) := by
  intro pins s σ H x xs v us Q I rx rs h
  obtain ⟨a, as, F, ex, da, das, q⟩ := h
  cases da with
  | str z =>
    cases das with
    | nil => exact q.elim
    | cons d1 d2 =>
      cases d2 with
      | cons _ _ => cases d1 <;> exact q.elim
      | nil =>
        cases d1 with
        | str y => exact mt_startswith pins s σ H _ _ v us Q I rx rs ⟨z, y, rfl, rfl, q.val ex (.bl _)⟩
        | _ => exact q.elim
  | _ => exact q.elim
end
end DL

/-! DL7: names for the printed walk, module constants, the end. -/
namespace DL
open PySem PySem.Spec PyProof.Rows L2

def dNil : Sls → Res (List PyData) := fun _ => .ok []
def tupD : List PyData → Option PyData := fun ds => if ds.length ≤ 1000 then some (.tuple ds) else none
def dDisp (fs : Sls → Res (List PyData)) (ρ : Sls) : Res (List PyData) := fs ρ >>= fun ds => if ds.length ≤ 1000 then .ok ds else .bad
def dFr (fs : Sls → Res (List PyData)) (ρ : Sls) : Res PyData := fs ρ >>= fun ds => .ok (.list ds)
def notD : PyData → Option PyData := fun d => (truD d).map fun b => .bool (!b)
def dPart (f : Sls → Res PyData) (ρ : Sls) : Res (Option Int) := f ρ >>= fun d => ofO ((asI d).map some)
def isi1 (g : PyData → Bool) : PyData → Option PyData := fun d => some (.bool (g d))
def isi2 (g g' : PyData → Bool) : PyData → Option PyData := fun d => some (.bool (g d || g' d))
def gBefore (i : Nat) (g : Sls → Out) (ρ : Sls) : Out := g (frz i ρ)
def gWhile (n : Sls → Nat) (t : Sls → Res Bool) (g : Sls → Out) (ρ : Sls) : Out := whileN t g (n ρ) ρ
def dNL (fs : Sls → Res (List PyData)) (ρ : Sls) : Res (List PyData) := fs ρ >>= fun ds => match ds with
  | [.list xs] => .ok xs
  | [.tuple xs] => .ok xs
  | _ => .bad

section
variable {X : Cx} {F0 H0 : Hp} {W : WX} {pos : Pos} {x : Str}
theorem de_globI {n : Int} (hg : Gl X x) (hm : ∃ t, X.mg x = some (.int n t)) (h : (x == ("__debug__" : Str)) = false := by decide) : DE X F0 H0 W (.Name x pos) (fun _ => .ok (.int n)) := by
  obtain ⟨t, hm⟩ := hm
  exact de_glob (v := .int n) hg hm ⟨t, rfl⟩ (fun _ => .int n) h
theorem de_globS {n : Str} (hg : Gl X x) (hm : ∃ t, X.mg x = some (.str n t)) (h : (x == ("__debug__" : Str)) = false := by decide) : DE X F0 H0 W (.Name x pos) (fun _ => .ok (.str n)) := by
  obtain ⟨t, hm⟩ := hm
  exact de_glob (v := .str n) hg hm ⟨t, rfl⟩ (fun _ => .str n) h
theorem de_globR {d : PyData} (hg : Gl X x) (hm : ∃ a, X.mg x = some (.ref a) ∧ ∀ F, Den X.K F (.ref a) d) (h : (x == ("__debug__" : Str)) = false := by decide) : DE X F0 H0 W (.Name x pos) (fun _ => .ok d) := by
  obtain ⟨a, hm, hd⟩ := hm
  exact de_glob (v := .ref a) hg hm rfl hd h
/-- {} -/
theorem de_dict0 : DE X F0 H0 W (.Dict [] [] pos) (fun _ => .ok (.dict [])) :=
  PE.imp pe_dnewK fun σ H Q ⟨ρ, F, sr, q⟩ p hp => q _ _ _ (Gr.new sr.ex hp) (.dic upd_same .nil)
/-- list(x), kept apart -/
theorem dn_list {e : Expr} {es : List Expr} {fs : Sls → Res (List PyData)} {p : Pos} (hg : Gl X x) (hm : X.mg x = none) (hv : bootBuiltins x = some (.type "list")) (ha : DA X F0 H0 W (e :: es) fs) (hn : x ≠ "__name__" := by decide) (hdb : (x == ("__debug__" : Str)) = false := by decide)
    (he : starEach (e :: es) X.env = (false, eval e X.env) :: starEach es X.env := by rfl) (hpl : (backTo pos (starEach es X.env)).any (·.1) = false := by rfl) : DN X F0 H0 W (.Call (.Name x p) (e :: es) [] pos) (dNL fs) := by
  refine PE.imp (pe_callTy call_list_of hg hm hv ha hn hdb he hpl) fun σ H Q ⟨ρ, F, sr, q⟩ => ?_
  refine ⟨ρ, F, sr, ?_⟩
  unfold dNL at q
  cases e : fs ρ with
  | exc x => simp only [e, bind_exc] at q; exact q
  | bad => simp only [e, bind_bad] at q
  | ok ds =>
    simp only [e, bind_ok] at q
    intro vs H1 F1 g1 r1
    cases r1 with
    | nil => exact q.elim
    | cons d1 d2 =>
      cases d2 with
      | cons _ _ => cases d1 <;> exact q.elim
      | nil =>
        cases d1 with
        | @lst l xs ds h1 h2 => exact ⟨l, xs, rfl, .inl (g1.fh.sl h1), fun p hp => q p xs _ F1 (g1.trans (Gr.newO g1.fh hp)) (not_of_none g1.hh hp) upd_same (not_of_none g1.fh hp) h2⟩
        | @tup l xs ds h1 h2 => exact ⟨l, xs, rfl, .inr (g1.fh.st h1), fun p hp => q p xs _ F1 (g1.trans (Gr.newO g1.fh hp)) (not_of_none g1.hh hp) upd_same (not_of_none g1.fh hp) h2⟩
        | _ => exact q.elim
end

/-! ### sums and ends of lists of ints -/
def intsOf : List PyData → Option (List Int)
  | [] => some []
  | .int i :: r => (intsOf r).map (i :: ·)
  | _ :: _ => none
theorem intsOf_map (ns : List Int) : intsOf (ns.map PyData.int) = some ns := by
  induction ns with
  | nil => rfl
  | cons n ns ih => rw [List.map_cons]; simp only [intsOf, ih, Option.map_some]
theorem intsOf_eq : ∀ {ds : List PyData} {ns : List Int}, intsOf ds = some ns → ds = ns.map PyData.int
  | [], ns, h => by cases h; rfl
  | d :: ds, ns, h => by
    cases d with
    | int x =>
      simp only [intsOf] at h
      cases e : intsOf ds with
      | none => rw [e] at h; cases h
      | some zs => rw [e] at h; cases h; rw [intsOf_eq e]; rfl
    | _ => cases h
def maxI : List Int → Option Int
  | [] => none
  | n :: ns => some (ns.foldl max n)
def minI : List Int → Option Int
  | [] => none
  | n :: ns => some (ns.foldl min n)
theorem foldl_max_ge : ∀ (ns : List Int) (n : Int), n ≤ ns.foldl max n ∧ ∀ y ∈ ns, y ≤ ns.foldl max n
  | [], n => ⟨Int.le_refl _, fun y h => by cases h⟩
  | m :: ns, n => by
    obtain ⟨h1, h2⟩ := foldl_max_ge ns (max n m)
    simp only [List.foldl_cons]
    refine ⟨by omega, fun y hy => ?_⟩
    rcases List.mem_cons.mp hy with rfl | hy
    · omega
    · exact h2 y hy
theorem foldl_max_mem : ∀ (ns : List Int) (n : Int), ns.foldl max n = n ∨ ns.foldl max n ∈ ns
  | [], n => .inl rfl
  | m :: ns, n => by
    simp only [List.foldl_cons]
    rcases foldl_max_mem ns (max n m) with h | h
    · rw [h]
      rcases Int.le_total n m with z | z
      · right; rw [Int.max_eq_right z]; exact List.mem_cons_self
      · left; exact Int.max_eq_left z
    · right; exact List.mem_cons_of_mem _ h
theorem foldl_min_le : ∀ (ns : List Int) (n : Int), ns.foldl min n ≤ n ∧ ∀ y ∈ ns, ns.foldl min n ≤ y
  | [], n => ⟨Int.le_refl _, fun y h => by cases h⟩
  | m :: ns, n => by
    obtain ⟨h1, h2⟩ := foldl_min_le ns (min n m)
    simp only [List.foldl_cons]
    refine ⟨by omega, fun y hy => ?_⟩
    rcases List.mem_cons.mp hy with rfl | hy
    · omega
    · exact h2 y hy
theorem foldl_min_mem : ∀ (ns : List Int) (n : Int), ns.foldl min n = n ∨ ns.foldl min n ∈ ns
  | [], n => .inl rfl
  | m :: ns, n => by
    simp only [List.foldl_cons]
    rcases foldl_min_mem ns (min n m) with h | h
    · rw [h]
      rcases Int.le_total n m with z | z
      · left; exact Int.min_eq_left z
      · right; rw [Int.min_eq_right z]; exact List.mem_cons_self
    · right; exact List.mem_cons_of_mem _ h
theorem max_is {ns : List Int} {m k : Int} (hm : m ∈ ns) (h : ∀ y, y ∈ ns → y ≤ m) (e : maxI ns = some k) : m = k := by
  cases ns with
  | nil => cases hm
  | cons n ns =>
    cases e
    have h1 := foldl_max_ge ns n
    have h3 : ns.foldl max n ∈ n :: ns := by
      rcases foldl_max_mem ns n with z | z
      · rw [z]; exact List.mem_cons_self
      · exact List.mem_cons_of_mem _ z
    have h4 := h _ h3
    rcases List.mem_cons.mp hm with rfl | z
    · omega
    · have := h1.2 m z; omega
theorem min_is {ns : List Int} {m k : Int} (hm : m ∈ ns) (h : ∀ y, y ∈ ns → m ≤ y) (e : minI ns = some k) : m = k := by
  cases ns with
  | nil => cases hm
  | cons n ns =>
    cases e
    have h1 := foldl_min_le ns n
    have h3 : ns.foldl min n ∈ n :: ns := by
      rcases foldl_min_mem ns n with z | z
      · rw [z]; exact List.mem_cons_self
      · exact List.mem_cons_of_mem _ z
    have h4 := h _ h3
    rcases List.mem_cons.mp hm with rfl | z
    · omega
    · have := h1.2 m z; omega
def maxLD : List PyData → Option PyData
  | [.list ds] => (intsOf ds).bind fun ns => (maxI ns).map .int
  | _ => none
def minLD : List PyData → Option PyData
  | [.list ds] => (intsOf ds).bind fun ns => (minI ns).map .int
  | _ => none
def sumD : List PyData → Option PyData
  | [.list ds] => (intsOf ds).map fun ns => .int ns.sum
  | _ => none
section
variable {X : Cx}
theorem oneList {K : PySem.W.Frag} {H F : Hp} {Q : VK} {as : List PyData} {xs : List V} {g : List PyData → Option PyData} (hg : ∀ as, (∀ ds, as ≠ [.list ds]) → g as = none) (ex : Ex F H) (da : Dens K F xs as) (q : Rop K (g as) H F Q) : ∃ l ys ds, as = [.list ds] ∧ xs = [.ref l] ∧ SqL K H l ys ∧ Dens K F ys ds := by
  cases da with
  | nil => rw [hg [] (by intro ds h; cases h)] at q; exact q.elim
  | cons d1 d2 =>
    cases d2 with
    | cons _ _ => rw [hg _ (by intro ds h; cases h)] at q; exact q.elim
    | nil =>
      cases d1 with
      | @lst l ys ds h1 h2 => exact ⟨l, ys, ds, rfl, rfl, ex.sl h1, h2⟩
      | _ => rw [hg _ (by intro ds h; cases h)] at q; exact q.elim
theorem call_maxLV (hc : X.calm = true) : CallR X (.builtin "max") (rL X.K maxLD) := by
  intro pins s σ H xs us Q I r h
  obtain ⟨as, F, ex, da, q⟩ := h
  obtain ⟨l, ys, ds, rfl, rfl, hl, hd⟩ := oneList (g := maxLD) (by intro as; unfold maxLD; split <;> intro h <;> first | rfl | exact absurd rfl (h _)) ex da q
  have q' : Rop X.K ((intsOf ds).bind fun ns => (maxI ns).map .int) H F Q := q
  cases e : intsOf ds with
  | none => rw [e] at q'; exact q'.elim
  | some ns =>
    rw [e, Option.bind_some] at q'
    have e2 := intsOf_eq e
    subst e2
    have e3 := hd.ints
    subst e3
    cases e4 : maxI ns with
    | none => rw [e4] at q'; exact q'.elim
    | some k =>
      rw [e4] at q'
      refine cr_max hc pins s σ H _ us Q I r ⟨l, ns, rfl, hl, ?_, fun m h1 h2 => ?_⟩
      · cases ns with
        | nil => cases e4
        | cons _ _ => exact Nat.zero_lt_succ _
      · obtain rfl := max_is h1 h2 e4
        exact q'.val ex (.int _)
theorem call_minLV (hc : X.calm = true) : CallR X (.builtin "min") (rL X.K minLD) := by
  intro pins s σ H xs us Q I r h
  obtain ⟨as, F, ex, da, q⟩ := h
  obtain ⟨l, ys, ds, rfl, rfl, hl, hd⟩ := oneList (g := minLD) (by intro as; unfold minLD; split <;> intro h <;> first | rfl | exact absurd rfl (h _)) ex da q
  have q' : Rop X.K ((intsOf ds).bind fun ns => (minI ns).map .int) H F Q := q
  cases e : intsOf ds with
  | none => rw [e] at q'; exact q'.elim
  | some ns =>
    rw [e, Option.bind_some] at q'
    have e2 := intsOf_eq e
    subst e2
    have e3 := hd.ints
    subst e3
    cases e4 : minI ns with
    | none => rw [e4] at q'; exact q'.elim
    | some k =>
      rw [e4] at q'
      refine cr_min hc pins s σ H _ us Q I r ⟨l, ns, rfl, hl, ?_, fun m h1 h2 => ?_⟩
      · cases ns with
        | nil => cases e4
        | cons _ _ => exact Nat.zero_lt_succ _
      · obtain rfl := min_is h1 h2 e4
        exact q'.val ex (.int _)
theorem call_sumV (hc : X.calm = true) : CallR X (.builtin "sum") (rL X.K sumD) := by
  intro pins s σ H xs us Q I r h
  obtain ⟨as, F, ex, da, q⟩ := h
  obtain ⟨l, ys, ds, rfl, rfl, hl, hd⟩ := oneList (g := sumD) (by intro as; unfold sumD; split <;> intro h <;> first | rfl | exact absurd rfl (h _)) ex da q
  have q' : Rop X.K ((intsOf ds).map fun ns => .int ns.sum) H F Q := q
  cases e : intsOf ds with
  | none => rw [e] at q'; exact q'.elim
  | some ns =>
    rw [e] at q'
    have e2 := intsOf_eq e
    subst e2
    have e3 := hd.ints
    subst e3
    exact cr_sum hc pins s σ H _ us Q I r ⟨l, ns, rfl, hl, q'.val ex (.int _)⟩
end

/-! ### module constants -/
mutual
/-- u, in the written part, stands for d -/
def denB (K : PySem.W.Frag) : PyData → Value → Bool
  | .none, u => u == .none
  | .bool b, u => match u with | .bool c => b == c | _ => false
  | .int i, u => match u with | .int j _ => decide (i = j) | _ => false
  | .str x, u => match u with | .str y _ => decide (x = y) | _ => false
  | .list ds, u => match u with
    | .ref a => match K.lookup a with
      | some ⟨.type "list", none, .seq its _, _⟩ => its.toList.length ≤ 1000 && densB K ds its.toList
      | _ => false
    | _ => false
  | .tuple ds, u => match u with
    | .ref a => match K.lookup a with
      | some ⟨.type "tuple", _, .seq its _, _⟩ => its.toList.length ≤ 1000 && densB K ds its.toList
      | _ => false
    | _ => false
  | .dict _, _ => false
def densB (K : PySem.W.Frag) : List PyData → List Value → Bool
  | [], us => us.isEmpty
  | d :: ds, us => match us with | u :: us => denB K d u && densB K ds us | [] => false
end
theorem z1000 {its : Array Value} (h : its.toList.length ≤ 1000) : its.size ≤ sizeLine := by
  rw [sizeLine_eq]
  rw [Array.length_toList] at h
  omega
mutual
theorem denB_of {K : PySem.W.Frag} : ∀ {d : PyData} {u : Value}, denB K d u = true → ∃ v, RelV v u ∧ ∀ F, Den K F v d
  | .none, u, h => by
    refine ⟨.non, ?_, fun _ => .non⟩
    simp only [denB] at h
    show u = .none
    cases u <;> first | rfl | exact absurd h (by decide) | (revert h; intro h; cases h)
  | .bool b, u, h => by
    cases u with
    | bool c => simp only [denB, beq_iff_eq] at h; subst h; exact ⟨.bl b, rfl, fun _ => .bl b⟩
    | _ => simp only [denB] at h; cases h
  | .int i, u, h => by
    cases u with
    | int j t => simp only [denB, decide_eq_true_eq] at h; subst h; exact ⟨.int i, ⟨t, rfl⟩, fun _ => .int i⟩
    | _ => simp only [denB] at h; cases h
  | .str x, u, h => by
    cases u with
    | str y t => simp only [denB, decide_eq_true_eq] at h; subst h; exact ⟨.str x, ⟨t, rfl⟩, fun _ => .str x⟩
    | _ => simp only [denB] at h; cases h
  | .list ds, u, h => by
    cases u with
    | ref a =>
      simp only [denB] at h
      split at h
      · rename_i its n sl e
        rw [Bool.and_eq_true, decide_eq_true_eq] at h
        obtain ⟨vs, rv, dn⟩ := densB_of h.2
        exact ⟨.ref a, rfl, fun F => .lst (.inr ⟨_, its, n, e, rfl, rfl, rfl, z1000 h.1, rv⟩) (dn F)⟩
      · cases h
    | _ => simp only [denB] at h; cases h
  | .tuple ds, u, h => by
    cases u with
    | ref a =>
      simp only [denB] at h
      split at h
      · rename_i dd its n sl e
        rw [Bool.and_eq_true, decide_eq_true_eq] at h
        obtain ⟨vs, rv, dn⟩ := densB_of h.2
        exact ⟨.ref a, rfl, fun F => .tup (.inr ⟨_, its, n, e, rfl, rfl, z1000 h.1, rv⟩) (dn F)⟩
      · cases h
    | _ => simp only [denB] at h; cases h
  | .dict _, u, h => by simp only [denB] at h; cases h
theorem densB_of {K : PySem.W.Frag} : ∀ {ds : List PyData} {us : List Value}, densB K ds us = true → ∃ vs, Vals vs us ∧ ∀ F, Dens K F vs ds
  | [], us, h => by
    cases us with
    | nil => exact ⟨[], .nil, fun _ => .nil⟩
    | cons _ _ => simp only [densB] at h; cases h
  | d :: ds, us, h => by
    cases us with
    | nil => simp only [densB] at h; cases h
    | cons u us =>
      simp only [densB, Bool.and_eq_true] at h
      obtain ⟨v, r, dv⟩ := denB_of h.1
      obtain ⟨vs, rs, dvs⟩ := densB_of h.2
      exact ⟨v :: vs, .cons r rs, fun F => .cons (dv F) (dvs F)⟩
end
theorem denB_den {K : PySem.W.Frag} {a : Addr} {d : PyData} (h : denB K d (.ref a) = true) (F : Hp) : Den K F (.ref a) d := by
  obtain ⟨v, r, q⟩ := denB_of h
  cases v with
  | ref b => have e : Value.ref a = Value.ref b := r; cases e; exact q F
  | non => exact nomatch (show Value.ref a = Value.none from r)
  | bl b => exact nomatch (show Value.ref a = Value.bool b from r)
  | ty n => exact nomatch (show Value.ref a = Value.type n from r)
  | int i => obtain ⟨t, e⟩ := r; cases e
  | str i => obtain ⟨t, e⟩ := r; cases e
  | byt i => obtain ⟨t, e⟩ := r; cases e
  | flt i => obtain ⟨t, e⟩ := r; cases e

/-! ### the end -/
def spL (K : PySem.W.Frag) : Sp := fun vs H Q _ => ∃ (a : Addr) (ns : List Int), vs = [.ref a] ∧ SqL K H a (ns.map V.int) ∧ ns.length ≤ 63 ∧ ∀ H', Q (.bl true) H'
section
variable {P : Program} {w : World} {K : PySem.W.Frag} {mg : Str → Option Value} {base : Heap} {f : Addr} {fd : FuncData} {x : Str} {k : Nat} {Fn : List PyData → Res PyData}
theorem law_end (G : FnD P w K mg base k f fd [x] Fn) (h : ∀ ns : List Int, ns.length ≤ 63 → Fn [.list (ns.map .int)] = .ok (.bool true)) : FnOk P w K mg base (L2.CX P w) k f fd [x] (spL K) :=
  FnOk.imp G fun vs H Q E ⟨a, ns, e, hs, hl, q⟩ => by
    subst e
    refine ⟨[.list (ns.map .int)], H, rfl, .refl H, .cons (.lst hs (.of_ints ns)) .nil, ?_⟩
    rw [h ns hl]
    intro v H' F' g r
    cases r
    exact q H'
theorem cx_false {outer : List PySem.Env} {H : Hp} {s : Shared} {u : Value} {s' : Shared} (h : L2.CX P w outer H s (fun _ _ _ => False) u s') : False := by
  obtain ⟨a, B, H', cls, d, _, _, _, _, _, _, _, e⟩ := h
  exact e
end
end DL

/-! DL8: a < b of tuples whose items need not be alike. -/
namespace DL
open PySem PySem.Spec PyProof.Rows L2

/-- the items side by side: the first pair that differs has a < that tells k; fin where none differs -/
inductive LtRun (A : Around) (s : Shared) (fin : Bool) : List (Value × Value) → Bool → Prop
  | nil : LtRun A s fin [] fin
  | same {y x : Value} {r : List (Value × Value)} {k : Bool} : SeqAt.EqAt A s y x true → LtRun A s fin r k → LtRun A s fin ((y, x) :: r) k
  | diff {y x : Value} {r : List (Value × Value)} {k : Bool} : SeqAt.EqAt A s y x false → SeqAt.RcLt A s y x k → LtRun A s fin ((y, x) :: r) k
section
open SeqAt
open AutoSeq1 (wpAny_loadPart')
open MeetsSeq MeetsSeq2 MeetsSeq3 SeqRoads2
theorem tup_run (p q : Addr) (xs ys : Array Value) (m m' : Nat) (dx dy : Option Addr) (ex ey : Array (Option Value)) (k : Bool) :
    Meets (Builtin.«tuple.__lt__» ⟨[.ref p, .ref q], []⟩)
      (fun A R s => (s.heap.get? p = some ⟨.type "tuple", dx, .seq xs m, ex⟩ ∧ s.heap.get? q = some ⟨.type "tuple", dy, .seq ys m', ey⟩) ∧
        LtRun A.in1 s (decide (xs.size < ys.size)) (xs.toList.zip ys.toList) k ∧ R (.ok (.ret (.bool k))) s) :=
  .of_wp fun prog w A R s h => by
    obtain ⟨hp, gg, dd, tt, oo⟩ := s
    obtain ⟨⟨hl, hb⟩, run, hR⟩ := h
    have sub := AutoSeq1.sub_tuple_tuple
    wp_walk using wpAny_loadPart' hl, wpAny_loadPart' hb, wpAny_forIn_list _ (fun rest b s' => b.1 = none ∧ s' = ⟨hp, gg, dd, tt, oo⟩ ∧ LtRun A.in1 ⟨hp, gg, dd, tt, oo⟩ (decide (xs.size < ys.size)) rest k ∧ R (.ok (.ret (.bool k))) ⟨hp, gg, dd, tt, oo⟩) _
    case turn =>
      rintro ⟨y, x⟩ rest b s' ⟨hb', rfl, run, hR⟩
      cases run with
      | same he hr =>
        refine wpAny_bind (he prog w _ _ ?_)
        wp_walk
        exact ⟨rfl, rfl, hr, hR⟩
      | diff he hr =>
        have hr2 := hr prog w
        refine wpAny_bind (he prog w _ _ ?_)
        generalize richCompare CmpOp.Lt y x = rc at hr2 ⊢
        wp_walk
        refine hr2 _ _ ?_
        wp_walk
        exact ⟨_, rfl, hR⟩
    case fin =>
      rintro ⟨b1, b2⟩ s' ⟨hb', rfl, run, hR⟩
      simp only at hb'
      subst hb'
      cases run
      wp_walk
      exact ⟨_, rfl, by simpa [Builtin.Tuple.tupleCompareSizes] using hR⟩
    exact ⟨rfl, rfl, run, hR⟩
theorem RcLt.run {A : Around} {s : Shared} {p q : Addr} {xs ys : Array Value} {k : Bool} (hl : s.heap.IsTuple p xs) (hb : s.heap.IsTuple q ys) (hu : A.units < cLine) (h : LtRun A.in1 s (decide (xs.size < ys.size)) (xs.toList.zip ys.toList) k) : SeqAt.RcLt A s (.ref p) (.ref q) k := fun prog w E Q hq => by
  obtain ⟨⟨cx, dx, bx, ex⟩, ho, hc, m, hd⟩ := id hl
  obtain ⟨⟨cy, dy, by_, ey⟩, ho2, hc2, m2, hd2⟩ := id hb
  simp only at hc hd hc2 hd2
  subst hc hd hc2 hd2
  exact richCompare_meets_room (op := .Lt) ⟨_, ho, rfl⟩ ⟨_, ho2, rfl⟩ F.slot_tuple_lt F.entry_tuple_lt (F.args_tuple_lt_2 _ _) (tup_run p q xs ys m m2 dx dy ex ey k)
    ⟨⟨ho, ho2⟩, h, show Value.bool k ≠ Value.notImplemented ∧ Q (.bool k) s from ⟨(fun x => nomatch x), hq⟩⟩ hu
end
mutual
/-- a < b -/
def lessD : PyData → PyData → Option Bool
  | .int i, b => match b with | .int j => some (decide (i < j)) | _ => none
  | .str x, b => match b with | .str y => some (decide (x.cps.toList < y.cps.toList)) | _ => none
  | .bool x, b => match b with | .bool y => some (decide (b2i x < b2i y)) | _ => none
  | .tuple xs, b => match b with | .tuple ys => lessL (decide (xs.length < ys.length)) xs ys | _ => none
  | _, _ => none
def lessL (fin : Bool) : List PyData → List PyData → Option Bool
  | [], _ => some fin
  | x :: xs, l => match l with
    | [] => some fin
    | y :: ys => if (x.canLay0 && y.canLay0) = true then (if PyData.eqv x y = true then lessL fin xs ys else lessD x y) else none
end
mutual
theorem less_reads : ∀ (a : PyData) (b : PyData) (k : Bool) (A : Around) (s : Shared) (u v : Value) (as bs : List Addr), Reads s.heap u a as → Reads s.heap v b bs → lessD a b = some k → A.units + a.depth < cLine → SeqAt.RcLt A s u v k
  | .int i, b, k, A, s, u, v, as, bs, ra, rb, e, hu => by
    cases b with
    | int j =>
      cases ra
      cases rb
      simp only [lessD, Option.some.injEq] at e
      subst e
      intro prog w E Q hq
      exact P.lt_int hq
    | _ => simp only [lessD] at e; cases e
  | .str i, b, k, A, s, u, v, as, bs, ra, rb, e, hu => by
    cases b with
    | str j =>
      cases ra
      cases rb
      simp only [lessD, Option.some.injEq] at e
      subst e
      intro prog w E Q hq
      exact P.lt_str hq
    | _ => simp only [lessD] at e; cases e
  | .bool i, b, k, A, s, u, v, as, bs, ra, rb, e, hu => by
    cases b with
    | bool j =>
      cases ra
      cases rb
      simp only [lessD, Option.some.injEq] at e
      subst e
      intro prog w E Q hq
      exact lt_bool hq
    | _ => simp only [lessD] at e; cases e
  | .tuple xs, b, k, A, s, u, v, as, bs, ra, rb, e, hu => by
    cases b with
    | tuple ys =>
      simp only [lessD] at e
      cases ra with
      | @tuple l o vs n _ as₁ h1 h2 h3 h4 =>
        cases rb with
        | @tuple l' o' vs' n' _ bs₁ k1 k2 k3 k4 =>
          have n1 : vs.size = xs.length := by simpa using SeqAt.ReadsAll.length _ _ _ h4
          have n2 : vs'.size = ys.length := by simpa using SeqAt.ReadsAll.length _ _ _ k4
          have hd : (PyData.tuple xs).depth = PyData.depthAll xs + 1 := by rw [PyData.depth]
          refine RcLt.run ⟨_, h1, h2, _, h3⟩ ⟨_, k1, k2, _, k3⟩ (by omega) ?_
          rw [n1, n2]
          exact less_run _ xs ys k A.in1 s vs.toList vs'.toList _ _ h4 k4 e (by show A.units + 1 + _ < cLine; omega)
    | _ => simp only [lessD] at e; cases e
  | .none, b, k, A, s, u, v, as, bs, ra, rb, e, hu => by simp only [lessD] at e; cases e
  | .list _, b, k, A, s, u, v, as, bs, ra, rb, e, hu => by simp only [lessD] at e; cases e
  | .dict _, b, k, A, s, u, v, as, bs, ra, rb, e, hu => by simp only [lessD] at e; cases e
theorem less_run (fin : Bool) : ∀ (xs ys : List PyData) (k : Bool) (A : Around) (s : Shared) (us vs : List Value) (as bs : List Addr), ReadsAll s.heap us xs as → ReadsAll s.heap vs ys bs → lessL fin xs ys = some k → A.units + PyData.depthAll xs < cLine → LtRun A s fin (us.zip vs) k
  | [], ys, k, A, s, us, vs, as, bs, ra, rb, e, hu => by
    cases ra
    simp only [lessL, Option.some.injEq] at e
    subst e
    exact .nil
  | x :: xs, ys, k, A, s, us, vs, as, bs, ra, rb, e, hu => by
    cases ra with
    | cons r rs =>
      cases rb with
      | nil =>
        simp only [lessL, Option.some.injEq] at e
        subst e
        exact .nil
      | @cons v' vs' y ys as' bs' r' rs' =>
        simp only [lessL] at e
        have hx : (PyData.depthAll (x :: xs)) = max x.depth (PyData.depthAll xs) := by rw [PyData.depthAll]
        by_cases hc : (x.canLay0 && y.canLay0) = true
        · rw [if_pos hc] at e
          rw [Bool.and_eq_true] at hc
          have he := SeqAt.eqAt_reads x y A s _ _ _ _ r r' hc.1 hc.2 (by omega)
          by_cases hq : PyData.eqv x y = true
          · rw [if_pos hq] at e
            rw [hq] at he
            exact .same he (less_run fin xs ys k A s _ _ _ _ rs rs' e (by omega))
          · rw [if_neg hq] at e
            rw [Bool.not_eq_true] at hq
            rw [hq] at he
            exact .diff he (less_reads x y k A s _ _ _ _ r r' e (by omega))
        · rw [if_neg hc] at e
          cases e
end
/-- a < b: ints, texts, truth values, tuples -/
def ltV (a b : PyData) : Option PyData := if (noDic a && noDic b && decide (a.depth ≤ 64)) = true then (lessD a b).map .bool else none
theorem op_ltV {X : Cx} (hu : X.A.units + 64 < cLine) : OpR X (compareOp .Lt) (r2 X.K ltV) := by
  intro pins s σ H x y v u Q I rx ry h
  obtain ⟨a, b, F, ex, da, db, q⟩ := h
  unfold ltV at q
  by_cases hz : (noDic a && noDic b && decide (a.depth ≤ 64)) = true
  · rw [if_pos hz] at q
    simp only [Bool.and_eq_true, decide_eq_true_eq] at hz
    cases e : lessD a b with
    | none => rw [e] at q; exact q.elim
    | some k =>
      rw [e] at q
      obtain ⟨as, r1⟩ := Dp.reads I a x v ((da.mono ex).dp hz.1.1) rx
      obtain ⟨bs, r2⟩ := Dp.reads I b y u ((db.mono ex).dp hz.1.2) ry
      exact less_reads a b k _ _ _ _ _ _ r1 r2 e (by omega) _ _ _ _ ⟨.bl k, H, I, rfl, q.val ex (.bl k)⟩
  · rw [if_neg hz] at q
    exact q.elim
/-! ### a > b -/
/-- a > b gives k, the state as it was -/
def RcGt (A : Around) (s : Shared) (y x : Value) (k : Bool) : Prop := ∀ (prog : Program) (w : World) (E : Value → Shared → Prop) (Q : Value → Shared → Prop), Q (.bool k) s → wpAny (model prog w) A (richCompare .Gt y x) Q E s
theorem more_str {prog : Program} {w : World} {A : Around} {E : Value → Shared → Prop} {s : Shared} {x y : Str} {t u : Tok} {Q : Value → Shared → Prop} (h : Q (.bool (decide (y.cps.toList < x.cps.toList))) s) : wpAny (model prog w) A (compareOp .Gt (.str x t) (.str y u)) Q E s := PySem.P.gt_str h
/-- the items side by side: the first pair that differs has a > that tells k; fin where none differs -/
inductive GtRun (A : Around) (s : Shared) (fin : Bool) : List (Value × Value) → Bool → Prop
  | nil : GtRun A s fin [] fin
  | same {y x : Value} {r : List (Value × Value)} {k : Bool} : SeqAt.EqAt A s y x true → GtRun A s fin r k → GtRun A s fin ((y, x) :: r) k
  | diff {y x : Value} {r : List (Value × Value)} {k : Bool} : SeqAt.EqAt A s y x false → RcGt A s y x k → GtRun A s fin ((y, x) :: r) k
section
open SeqAt
open AutoSeq1 (wpAny_loadPart')
open MeetsSeq MeetsSeq2 MeetsSeq3 SeqRoads2
theorem tup_runG (p q : Addr) (xs ys : Array Value) (m m' : Nat) (dx dy : Option Addr) (ex ey : Array (Option Value)) (k : Bool) :
    Meets (Builtin.«tuple.__gt__» ⟨[.ref p, .ref q], []⟩)
      (fun A R s => (s.heap.get? p = some ⟨.type "tuple", dx, .seq xs m, ex⟩ ∧ s.heap.get? q = some ⟨.type "tuple", dy, .seq ys m', ey⟩) ∧
        GtRun A.in1 s (decide (xs.size > ys.size)) (xs.toList.zip ys.toList) k ∧ R (.ok (.ret (.bool k))) s) :=
  .of_wp fun prog w A R s h => by
    obtain ⟨hp, gg, dd, tt, oo⟩ := s
    obtain ⟨⟨hl, hb⟩, run, hR⟩ := h
    have sub := AutoSeq1.sub_tuple_tuple
    wp_walk using wpAny_loadPart' hl, wpAny_loadPart' hb, wpAny_forIn_list _ (fun rest b s' => b.1 = none ∧ s' = ⟨hp, gg, dd, tt, oo⟩ ∧ GtRun A.in1 ⟨hp, gg, dd, tt, oo⟩ (decide (xs.size > ys.size)) rest k ∧ R (.ok (.ret (.bool k))) ⟨hp, gg, dd, tt, oo⟩) _
    case turn =>
      rintro ⟨y, x⟩ rest b s' ⟨hb', rfl, run, hR⟩
      cases run with
      | same he hr =>
        refine wpAny_bind (he prog w _ _ ?_)
        wp_walk
        exact ⟨rfl, rfl, hr, hR⟩
      | diff he hr =>
        have hr2 := hr prog w
        refine wpAny_bind (he prog w _ _ ?_)
        generalize richCompare CmpOp.Gt y x = rc at hr2 ⊢
        wp_walk
        refine hr2 _ _ ?_
        wp_walk
        exact ⟨_, rfl, hR⟩
    case fin =>
      rintro ⟨b1, b2⟩ s' ⟨hb', rfl, run, hR⟩
      simp only at hb'
      subst hb'
      cases run
      wp_walk
      exact ⟨_, rfl, by simpa [Builtin.Tuple.tupleCompareSizes] using hR⟩
    exact ⟨rfl, rfl, run, hR⟩
theorem RcGt.run {A : Around} {s : Shared} {p q : Addr} {xs ys : Array Value} {k : Bool} (hl : s.heap.IsTuple p xs) (hb : s.heap.IsTuple q ys) (hu : A.units < cLine) (h : GtRun A.in1 s (decide (xs.size > ys.size)) (xs.toList.zip ys.toList) k) : RcGt A s (.ref p) (.ref q) k := fun prog w E Q hq => by
  obtain ⟨⟨cx, dx, bx, ex⟩, ho, hc, m, hd⟩ := id hl
  obtain ⟨⟨cy, dy, by_, ey⟩, ho2, hc2, m2, hd2⟩ := id hb
  simp only at hc hd hc2 hd2
  subst hc hd hc2 hd2
  exact richCompare_meets_room (op := .Gt) ⟨_, ho, rfl⟩ ⟨_, ho2, rfl⟩ F.slot_tuple_gt F.entry_tuple_gt (F.args_tuple_gt_2 _ _) (tup_runG p q xs ys m m2 dx dy ex ey k)
    ⟨⟨ho, ho2⟩, h, show Value.bool k ≠ Value.notImplemented ∧ Q (.bool k) s from ⟨(fun x => nomatch x), hq⟩⟩ hu
end
mutual
/-- a > b -/
def moreD : PyData → PyData → Option Bool
  | .int i, b => match b with | .int j => some (decide (j < i)) | _ => none
  | .str x, b => match b with | .str y => some (decide (y.cps.toList < x.cps.toList)) | _ => none
  | .bool x, b => match b with | .bool y => some (decide (b2i y < b2i x)) | _ => none
  | .tuple xs, b => match b with | .tuple ys => moreL (decide (xs.length > ys.length)) xs ys | _ => none
  | _, _ => none
def moreL (fin : Bool) : List PyData → List PyData → Option Bool
  | [], _ => some fin
  | x :: xs, l => match l with
    | [] => some fin
    | y :: ys => if (x.canLay0 && y.canLay0) = true then (if PyData.eqv x y = true then moreL fin xs ys else moreD x y) else none
end
mutual
theorem more_reads : ∀ (a : PyData) (b : PyData) (k : Bool) (A : Around) (s : Shared) (u v : Value) (as bs : List Addr), Reads s.heap u a as → Reads s.heap v b bs → moreD a b = some k → A.units + a.depth < cLine → RcGt A s u v k
  | .int i, b, k, A, s, u, v, as, bs, ra, rb, e, hu => by
    cases b with
    | int j =>
      cases ra
      cases rb
      simp only [moreD, Option.some.injEq] at e
      subst e
      intro prog w E Q hq
      exact P.gt_int hq
    | _ => simp only [moreD] at e; cases e
  | .str i, b, k, A, s, u, v, as, bs, ra, rb, e, hu => by
    cases b with
    | str j =>
      cases ra
      cases rb
      simp only [moreD, Option.some.injEq] at e
      subst e
      intro prog w E Q hq
      exact more_str hq
    | _ => simp only [moreD] at e; cases e
  | .bool i, b, k, A, s, u, v, as, bs, ra, rb, e, hu => by
    cases b with
    | bool j =>
      cases ra
      cases rb
      simp only [moreD, Option.some.injEq] at e
      subst e
      intro prog w E Q hq
      exact gt_bool hq
    | _ => simp only [moreD] at e; cases e
  | .tuple xs, b, k, A, s, u, v, as, bs, ra, rb, e, hu => by
    cases b with
    | tuple ys =>
      simp only [moreD] at e
      cases ra with
      | @tuple l o vs n _ as₁ h1 h2 h3 h4 =>
        cases rb with
        | @tuple l' o' vs' n' _ bs₁ k1 k2 k3 k4 =>
          have n1 : vs.size = xs.length := by simpa using SeqAt.ReadsAll.length _ _ _ h4
          have n2 : vs'.size = ys.length := by simpa using SeqAt.ReadsAll.length _ _ _ k4
          have hd : (PyData.tuple xs).depth = PyData.depthAll xs + 1 := by rw [PyData.depth]
          refine RcGt.run ⟨_, h1, h2, _, h3⟩ ⟨_, k1, k2, _, k3⟩ (by omega) ?_
          rw [n1, n2]
          exact more_run _ xs ys k A.in1 s vs.toList vs'.toList _ _ h4 k4 e (by show A.units + 1 + _ < cLine; omega)
    | _ => simp only [moreD] at e; cases e
  | .none, b, k, A, s, u, v, as, bs, ra, rb, e, hu => by simp only [moreD] at e; cases e
  | .list _, b, k, A, s, u, v, as, bs, ra, rb, e, hu => by simp only [moreD] at e; cases e
  | .dict _, b, k, A, s, u, v, as, bs, ra, rb, e, hu => by simp only [moreD] at e; cases e
theorem more_run (fin : Bool) : ∀ (xs ys : List PyData) (k : Bool) (A : Around) (s : Shared) (us vs : List Value) (as bs : List Addr), ReadsAll s.heap us xs as → ReadsAll s.heap vs ys bs → moreL fin xs ys = some k → A.units + PyData.depthAll xs < cLine → GtRun A s fin (us.zip vs) k
  | [], ys, k, A, s, us, vs, as, bs, ra, rb, e, hu => by
    cases ra
    simp only [moreL, Option.some.injEq] at e
    subst e
    exact .nil
  | x :: xs, ys, k, A, s, us, vs, as, bs, ra, rb, e, hu => by
    cases ra with
    | cons r rs =>
      cases rb with
      | nil =>
        simp only [moreL, Option.some.injEq] at e
        subst e
        exact .nil
      | @cons v' vs' y ys as' bs' r' rs' =>
        simp only [moreL] at e
        have hx : (PyData.depthAll (x :: xs)) = max x.depth (PyData.depthAll xs) := by rw [PyData.depthAll]
        by_cases hc : (x.canLay0 && y.canLay0) = true
        · rw [if_pos hc] at e
          rw [Bool.and_eq_true] at hc
          have he := SeqAt.eqAt_reads x y A s _ _ _ _ r r' hc.1 hc.2 (by omega)
          by_cases hq : PyData.eqv x y = true
          · rw [if_pos hq] at e
            rw [hq] at he
            exact .same he (more_run fin xs ys k A s _ _ _ _ rs rs' e (by omega))
          · rw [if_neg hq] at e
            rw [Bool.not_eq_true] at hq
            rw [hq] at he
            exact .diff he (more_reads x y k A s _ _ _ _ r r' e (by omega))
        · rw [if_neg hc] at e
          cases e
end
/-- a > b: ints, texts, truth values, tuples -/
def gtV (a b : PyData) : Option PyData := if (noDic a && noDic b && decide (a.depth ≤ 64)) = true then (moreD a b).map .bool else none
theorem op_gtV {X : Cx} (hu : X.A.units + 64 < cLine) : OpR X (compareOp .Gt) (r2 X.K gtV) := by
  intro pins s σ H x y v u Q I rx ry h
  obtain ⟨a, b, F, ex, da, db, q⟩ := h
  unfold gtV at q
  by_cases hz : (noDic a && noDic b && decide (a.depth ≤ 64)) = true
  · rw [if_pos hz] at q
    simp only [Bool.and_eq_true, decide_eq_true_eq] at hz
    cases e : moreD a b with
    | none => rw [e] at q; exact q.elim
    | some k =>
      rw [e] at q
      obtain ⟨as, r1⟩ := Dp.reads I a x v ((da.mono ex).dp hz.1.1) rx
      obtain ⟨bs, r2⟩ := Dp.reads I b y u ((db.mono ex).dp hz.1.2) ry
      exact more_reads a b k _ _ _ _ _ _ r1 r2 e (by omega) _ _ _ _ ⟨.bl k, H, I, rfl, q.val ex (.bl k)⟩
  · rw [if_neg hz] at q
    exact q.elim
end DL

/-! DL9: what is not read (bad), tables of the module with text keys, a def out of a table. -/
namespace DL
open PySem PySem.Spec PyProof.Rows L2

/-! ### nothing is said -/
section
variable {X : Cx} {F0 H0 : Hp} {W : WX}
theorem de_bad {e : Expr} : DE X F0 H0 W e (fun _ => .bad) := ⟨fun pins s σ H Q I ⟨ρ, F, sr, q⟩ => q.elim⟩
theorem dt_bad {e : Expr} : DT X F0 H0 W e (fun _ => .bad) := ⟨fun pins s σ H Q I ⟨ρ, F, sr, q⟩ => q.elim⟩
theorem ds_bad {st : Stmt} : DS X F0 H0 W st (fun _ => .bad) := ⟨fun pins s σ H D I ⟨ρ, F, sr, q⟩ => q.elim⟩
theorem dss_bad {st : List Stmt} : DSs X F0 H0 W st (fun _ => .bad) := ⟨fun pins s σ H D I ⟨ρ, F, sr, q⟩ => q.elim⟩
end

/-! ### tables -/
/-- at a: a written dict, key by key what stands there -/
structure TabV {α : Type} (K : PySem.W.Frag) (w : World) (a : Addr) (tbl : List (Str × α)) (R : α → Value → Prop) : Prop where
  kd : ∃ es n, KDict K w a es n
  miss : ∀ z, tbl.lookup z = none → PySem.W.nsIn K a z = some none
  hit : ∀ z x, tbl.lookup z = some x → ∃ u, PySem.W.nsIn K a z = some (some u) ∧ R x u
def valsW (K : PySem.W.Frag) (a : Addr) : Option (List Value) := match K.lookup a with
  | some ⟨_, _, .dict es _, _⟩ => some (es.toList.map (·.val))
  | _ => none
inductive Match {α : Type} (R : α → Value → Prop) : List (Str × α) → List DictEntry → Prop
  | nil : Match R [] []
  | cons {k : Str} {x : α} {t : Tok} {e : DictEntry} {r : List (Str × α)} {es : List DictEntry} : e.key = .str k t → R x e.val → Match R r es → Match R ((k, x) :: r) (e :: es)
theorem str_beq (x y : Str) (t : Tok) : (Value.str y t).isStr x = (x == y) := by
  show (y == x) = (x == y)
  by_cases h : x = y
  · subst h; rfl
  · rw [beq_eq_false_iff_ne.mpr h, beq_eq_false_iff_ne.mpr fun z => h z.symm]
theorem Match.find {α : Type} {R : α → Value → Prop} (z : Str) : ∀ {tbl : List (Str × α)} {es : List DictEntry}, Match R tbl es →
    (∀ x, tbl.lookup z = some x → ∃ e, es.find? (·.key.isStr z) = some e ∧ R x e.val) ∧ (tbl.lookup z = none → es.find? (·.key.isStr z) = none) ∧ es.any (·.refKey) = false
  | _, _, .nil => ⟨(fun x h => by cases h), (fun _ => rfl), rfl⟩
  | _, _, @Match.cons _ _ k x t e r es h1 h2 h3 => by
    obtain ⟨i1, i2, i3⟩ := Match.find z h3
    have hk : e.key.isStr z = (z == k) := by rw [h1]; exact str_beq z k t
    have hr : e.refKey = false := by unfold DictEntry.refKey; rw [h1]
    refine ⟨fun y hy => ?_, fun hn => ?_, by rw [List.any_cons, hr, i3]; rfl⟩
    · rw [List.lookup_cons] at hy
      cases hz : z == k with
      | true =>
        rw [hz] at hy
        cases hy
        exact ⟨e, by rw [List.find?_cons, hk, hz], h2⟩
      | false =>
        rw [hz] at hy
        obtain ⟨e', q1, q2⟩ := i1 y hy
        exact ⟨e', by rw [List.find?_cons, hk, hz]; exact q1, q2⟩
    · rw [List.lookup_cons] at hn
      cases hz : z == k with
      | true => rw [hz] at hn; cases hn
      | false =>
        rw [hz] at hn
        rw [List.find?_cons, hk, hz]
        exact i2 hn
theorem match_of {α : Type} {R : α → Value → Prop} {P : Params} : ∀ {tbl : List (Str × α)} {es : List DictEntry}, es.map He.keyOf = He.keysIn P (tbl.map (·.1)) → Paired R (tbl.map (·.2)) (es.map (·.val)) → Match R tbl es
  | [], [], _, _ => .nil
  | [], e :: es, h, _ => by cases h
  | (k, x) :: r, [], h, _ => by cases h
  | (k, x) :: r, e :: es, h, q => by
    rw [List.map_cons, List.map_cons] at q
    cases q with
    | cons q1 q2 =>
      have h1 : He.keyOf e :: es.map He.keyOf = some (k, PyData.keyHash P k) :: He.keysIn P (r.map (·.1)) := h
      injection h1 with h2 h3
      unfold He.keyOf at h2
      split at h2
      · rename_i y t e1
        obtain ⟨h5, h6⟩ := Prod.mk.inj (Option.some.inj h2)
        exact .cons (t := t) (by rw [e1, h5]) q1 (match_of h3 q2)
      · cases h2
theorem tab_of {α : Type} {R : α → Value → Prop} {K : PySem.W.Frag} {w : World} {a : Addr} {tbl : List (Str × α)} {us : List Value} (h1 : He.dicW K a = some (He.keysIn w.params (tbl.map (·.1)))) (h2 : valsW K a = some us) (h3 : Paired R (tbl.map (·.2)) us) : TabV K w a tbl R := by
  obtain ⟨es, n, D⟩ := He.dicW_ok h1
  have hm : es.toList.map He.keyOf = He.keysIn w.params (tbl.map (·.1)) := by
    unfold He.dicW at h1
    rw [D.at_] at h1
    simp only at h1
    split at h1
    · exact Option.some.inj h1
    · cases h1
  have hv : es.toList.map (·.val) = us := by
    unfold valsW at h2
    rw [D.at_] at h2
    exact Option.some.inj h2
  have M := match_of (R := R) hm (by rw [hv]; exact h3)
  refine ⟨⟨es, n, D⟩, fun z hz => ?_, fun z x hz => ?_⟩
  · obtain ⟨_, i2, i3⟩ := M.find z
    unfold PySem.W.nsIn
    rw [D.at_]
    simp only [i2 hz, i3]
    rfl
  · obtain ⟨i1, _, _⟩ := M.find z
    obtain ⟨e, q1, q2⟩ := i1 x hz
    refine ⟨e.val, ?_, q2⟩
    unfold PySem.W.nsIn
    rw [D.at_]
    simp only [q1]
def DatR (K : PySem.W.Frag) (d : PyData) (u : Value) : Prop := ∃ v, RelV v u ∧ ∀ F, Den K F v d
abbrev TabD (K : PySem.W.Frag) (w : World) (a : Addr) (tbl : List (Str × PyData)) : Prop := TabV K w a tbl (DatR K)
theorem pairs_of {K : PySem.W.Frag} : ∀ {ds : List PyData} {us : List Value}, densB K ds us = true → Paired (DatR K) ds us
  | [], [], _ => .nil
  | [], _ :: _, h => by simp only [densB] at h; cases h
  | _ :: _, [], h => by simp only [densB] at h; cases h
  | d :: ds, u :: us, h => by
    simp only [densB, Bool.and_eq_true] at h
    exact .cons (denB_of h.1) (pairs_of h.2)
def valsB (K : PySem.W.Frag) (a : Addr) (ds : List PyData) : Bool := match valsW K a with
  | some us => densB K ds us
  | none => false
theorem tabD_of {K : PySem.W.Frag} {w : World} {a : Addr} {tbl : List (Str × PyData)} (h1 : He.dicW K a = some (He.keysIn w.params (tbl.map (·.1)))) (h2 : valsB K a (tbl.map (·.2)) = true) : TabD K w a tbl := by
  unfold valsB at h2
  cases e : valsW K a with
  | none => rw [e] at h2; cases h2
  | some us => rw [e] at h2; exact tab_of h1 e (pairs_of h2)
/-- a table of defs -/
abbrev TabF (K : PySem.W.Frag) (w : World) (a : Addr) (tbl : List (Str × Addr)) : Prop := TabV K w a tbl (fun f u => u = .ref f)
theorem refs_pair : ∀ (fs : List Addr), Paired (fun f u => u = Value.ref f) fs (fs.map .ref)
  | [] => .nil
  | f :: fs => .cons rfl (refs_pair fs)
theorem tabF_of {K : PySem.W.Frag} {w : World} {a : Addr} {tbl : List (Str × Addr)} (h1 : He.dicW K a = some (He.keysIn w.params (tbl.map (·.1)))) (h2 : valsW K a = some ((tbl.map (·.2)).map .ref)) : TabF K w a tbl := tab_of h1 h2 (refs_pair _)

section
variable {X : Cx} {F0 H0 : Hp} {W : WX} {pos p : Pos} {e : Expr} {f : Sls → Res PyData} {D : Str} {α : Type} {tbl : List (Str × α)} {R : α → Value → Prop}
/-- x in D, x not in D -/
def inT {α : Type} (tbl : List (Str × α)) : PyData → Option PyData
  | .str z => some (.bool (tbl.lookup z).isSome)
  | _ => none
def notInT {α : Type} (tbl : List (Str × α)) : PyData → Option PyData
  | .str z => some (.bool (!(tbl.lookup z).isSome))
  | _ => none
theorem in_run {g : PyData → Option PyData} {a : Addr} {σ : L2.St} {H : Hp} {Q : VK} (h : rd X.mg X.K F0 H0 W (Den X.K) (d1 g f) σ H Q) : tOp (fun x y H Q => y = .ref a ∧ ∃ d F, Ex F H ∧ Den X.K F x d ∧ Rop X.K (g d) H F Q) (rd X.mg X.K F0 H0 W (Den X.K) f) (tC (.ref a)) σ H Q := by
  obtain ⟨ρ, F, sr, q⟩ := h
  obtain ⟨ρ1, F1, sr1, q1⟩ := rd_step (R := Den X.K) sr q
  refine ⟨ρ1, F1, sr1, q1.imp fun v H1 F2 d g1 r1 k => ?_⟩
  obtain ⟨a', F3, g3, r3, sr3, q3⟩ := k v H1 F2 (.refl g1.fh) r1
  exact ⟨rfl, a', F3, sr3.ex, r3, q3.rop⟩
theorem op_inT {a : Addr} (T : TabV X.K X.w a tbl R) : OpR X (compareOp .In) (fun x y H Q => y = .ref a ∧ ∃ d F, Ex F H ∧ Den X.K F x d ∧ Rop X.K (inT tbl d) H F Q) := by
  intro pins s σ H x y v u Q I rx ry h
  obtain ⟨rfl, d, F, ex, dx, q⟩ := h
  obtain ⟨es, n, kd⟩ := T.kd
  cases dx with
  | str z =>
    have q' : Rop X.K (some (.bool (tbl.lookup z).isSome)) H F Q := q
    cases e : tbl.lookup z with
    | none => rw [e] at q'; exact op_in_kd kd pins s σ H _ _ v u Q I rx ry ⟨z, none, rfl, rfl, T.miss z e, q'.val ex (.bl _)⟩
    | some x =>
      rw [e] at q'
      obtain ⟨u0, h1, _⟩ := T.hit z x e
      exact op_in_kd kd pins s σ H _ _ v u Q I rx ry ⟨z, some u0, rfl, rfl, h1, q'.val ex (.bl _)⟩
  | _ => exact q.elim
theorem op_notInT {a : Addr} (T : TabV X.K X.w a tbl R) : OpR X (compareOp .NotIn) (fun x y H Q => y = .ref a ∧ ∃ d F, Ex F H ∧ Den X.K F x d ∧ Rop X.K (notInT tbl d) H F Q) := by
  intro pins s σ H x y v u Q I rx ry h
  obtain ⟨rfl, d, F, ex, dx, q⟩ := h
  obtain ⟨es, n, kd⟩ := T.kd
  cases dx with
  | str z =>
    have q' : Rop X.K (some (.bool (!(tbl.lookup z).isSome))) H F Q := q
    cases e : tbl.lookup z with
    | none => rw [e] at q'; exact op_notIn_kd kd pins s σ H _ _ v u Q I rx ry ⟨z, none, rfl, rfl, T.miss z e, q'.val ex (.bl _)⟩
    | some x =>
      rw [e] at q'
      obtain ⟨u0, h1, _⟩ := T.hit z x e
      exact op_notIn_kd kd pins s σ H _ _ v u Q I rx ry ⟨z, some u0, rfl, rfl, h1, q'.val ex (.bl _)⟩
  | _ => exact q.elim
theorem pe_globA {a : Addr} (hg : Gl X D) (hm : X.mg D = some (.ref a)) (h : (D == ("__debug__" : Str)) = false) : PE X (.Name D p) (tC (.ref a)) := pe_glob hg hm rfl h
theorem de_inT (hg : Gl X D) (T : ∃ a, X.mg D = some (.ref a) ∧ TabV X.K X.w a tbl R) (ha : DE X F0 H0 W e f) (h : (D == ("__debug__" : Str)) = false := by decide) (hm : behindInMarks .In (.Name D p) = false := by rfl) : DE X F0 H0 W (.Compare e [.In] [.Name D p] pos) (d1 (inT tbl) f) := by
  obtain ⟨a, m, T⟩ := T
  exact PE.imp (pe_cmpR (op_inT T) ha (pe_globA hg m h) hm) fun _ _ _ q => in_run q
theorem dt_inT (hg : Gl X D) (T : ∃ a, X.mg D = some (.ref a) ∧ TabV X.K X.w a tbl R) (ha : DE X F0 H0 W e f) (h : (D == ("__debug__" : Str)) = false := by decide) (hm : behindInMarks .In (.Name D p) = false := by rfl) : DT X F0 H0 W (.Compare e [.In] [.Name D p] pos) (dB (d1 (inT tbl) f)) := by
  obtain ⟨a, m, T⟩ := T
  refine PT.imp (pt_cmpR (op_inT T) ha (pe_globA hg m h) hm) fun σ H Q q => ?_
  exact in_run (rdB (f := d1 (inT tbl) f) q)
theorem de_notInT (hg : Gl X D) (T : ∃ a, X.mg D = some (.ref a) ∧ TabV X.K X.w a tbl R) (ha : DE X F0 H0 W e f) (h : (D == ("__debug__" : Str)) = false := by decide) (hm : behindInMarks .NotIn (.Name D p) = false := by rfl) : DE X F0 H0 W (.Compare e [.NotIn] [.Name D p] pos) (d1 (notInT tbl) f) := by
  obtain ⟨a, m, T⟩ := T
  exact PE.imp (pe_cmpR (op_notInT T) ha (pe_globA hg m h) hm) fun _ _ _ q => in_run q
theorem dt_notInT (hg : Gl X D) (T : ∃ a, X.mg D = some (.ref a) ∧ TabV X.K X.w a tbl R) (ha : DE X F0 H0 W e f) (h : (D == ("__debug__" : Str)) = false := by decide) (hm : behindInMarks .NotIn (.Name D p) = false := by rfl) : DT X F0 H0 W (.Compare e [.NotIn] [.Name D p] pos) (dB (d1 (notInT tbl) f)) := by
  obtain ⟨a, m, T⟩ := T
  refine PT.imp (pt_cmpR (op_notInT T) ha (pe_globA hg m h) hm) fun σ H Q q => ?_
  exact in_run (rdB (f := d1 (notInT tbl) f) q)
/-- D[x] -/
def ixT (tbl : List (Str × PyData)) : PyData → Option PyData
  | .str z => tbl.lookup z
  | _ => none
theorem ix_T {a : Addr} {tbl : List (Str × PyData)} (T : TabD X.K X.w a tbl) : IxR X (fun x y H Q => x = .ref a ∧ ∃ d F, Ex F H ∧ Den X.K F y d ∧ Rop X.K (ixT tbl d) H F Q) := by
  intro value slice pins s σ H x y v u Q I rx ry h hs
  obtain ⟨rfl, d, F, ex, dy, q⟩ := h
  obtain ⟨es, n, kd⟩ := T.kd
  cases dy with
  | str z =>
    have q' : Rop X.K (tbl.lookup z) H F Q := q
    cases e : tbl.lookup z with
    | none => rw [e] at q'; exact q'.elim
    | some d =>
      rw [e] at q'
      obtain ⟨u0, h1, v0, r0, hd⟩ := T.hit z d e
      exact ix_kdict value slice pins s σ H _ _ v u Q I rx ry ⟨a, z, v0, rfl, rfl, ⟨es, n, u0, kd.at_, kd.lit, h1, r0⟩, q'.val ex (hd F)⟩ hs
  | _ => exact q.elim
theorem de_ixT {tbl : List (Str × PyData)} (hg : Gl X D) (T : ∃ a, X.mg D = some (.ref a) ∧ TabD X.K X.w a tbl) (ha : DE X F0 H0 W e f) (hs : PlainIx e) (h : (D == ("__debug__" : Str)) = false := by decide) : DE X F0 H0 W (.Subscript (.Name D p) e pos) (d1 (ixT tbl) f) := by
  obtain ⟨a, m, T⟩ := T
  refine PE.imp (pe_ix (ix_T T) (pe_globA hg m h) ha hs) fun σ H Q ⟨ρ, F, sr, q⟩ => ?_
  show rd X.mg X.K F0 H0 W (Den X.K) f σ H _
  obtain ⟨ρ1, F1, sr1, q1⟩ := rd_step (R := Den X.K) sr q
  refine ⟨ρ1, F1, sr1, q1.imp fun v H1 F2 d g1 r1 k => ?_⟩
  obtain ⟨a', F3, g3, r3, sr3, q3⟩ := k v H1 F2 (.refl g1.fh) r1
  exact ⟨rfl, a', F3, sr3.ex, r3, q3.rop⟩
end
/-! ### action = D[name]; return action(..) -/
theorem SR.setU {K : PySem.W.Frag} {F0 H0 : Hp} {σ : L2.St} {H F : Hp} {ρ : Sls} (r : SR K F0 H0 ρ σ H F) (i : Nat) (o : Option V) : SR K F0 H0 (ρ.set i .un) (σ.set i o) H F := by
  have ow : ∀ j a, OwnAt (ρ.set i .un) (σ.set i o) j a → j ≠ i ∧ OwnAt ρ σ j a := fun j a ⟨⟨ds, e1⟩, e2⟩ => by
    by_cases hj : j = i
    · subst hj
      by_cases hl : j < ρ.length
      · rw [List.getElem?_set_self hl] at e1; cases e1
      · rw [List.getElem?_eq_none (by simpa using hl)] at e1; cases e1
    · rw [List.getElem?_set_ne (Ne.symm hj)] at e1 e2
      exact ⟨hj, ⟨ds, e1⟩, e2⟩
  refine ⟨r.gr, by simp [r.len], fun j s e => ?_, fun j a o => r.own0 j a (ow j a o).2, fun j k a o1 o2 => r.sep j k a (ow j a o1).2 (ow k a o2).2⟩
  by_cases hj : j = i
  · subst hj
    by_cases hl : j < ρ.length
    · rw [List.getElem?_set_self hl] at e; cases e
      exact True.intro
    · rw [List.getElem?_eq_none (by simpa using hl)] at e; cases e
  · rw [List.getElem?_set_ne (Ne.symm hj)] at e ⊢
    exact r.sl j s e
abbrev FnT := List PyData → Res PyData
/-- the defs of a table, and what each keeps to -/
inductive Acts (P : Program) (w : World) (K : PySem.W.Frag) (mg : Str → Option Value) (base : Heap) (j n : Nat) : List (Str × Addr) → List (Str × FnT) → Prop
  | nil : Acts P w K mg base j n [] []
  | cons {k : Str} {f : Addr} {fd : FuncData} {ps : List Str} {Fn : FnT} {t : List (Str × Addr)} {t' : List (Str × FnT)} : FnD P w K mg base j f fd ps Fn → PySem.W.keepIn K (.ref f) = true → Binds K fd ps [] → ps.length = n → Acts P w K mg base j n t t' → Acts P w K mg base j n ((k, f) :: t) ((k, Fn) :: t')
theorem Acts.get {P : Program} {w : World} {K : PySem.W.Frag} {mg : Str → Option Value} {base : Heap} {j n : Nat} {z : Str} {Fn : FnT} : ∀ {t : List (Str × Addr)} {t' : List (Str × FnT)}, Acts P w K mg base j n t t' → t'.lookup z = some Fn →
    ∃ f fd ps, t.lookup z = some f ∧ FnD P w K mg base j f fd ps Fn ∧ PySem.W.keepIn K (.ref f) = true ∧ Binds K fd ps [] ∧ ps.length = n
  | _, _, .nil, h => by cases h
  | _, _, @Acts.cons _ _ _ _ _ _ _ k f fd ps Fn' t t' G hk hb hl r, h => by
    rw [List.lookup_cons] at h ⊢
    cases hz : z == k with
    | true =>
      rw [hz] at h
      cases h
      exact ⟨f, fd, ps, rfl, G, hk, hb, hl⟩
    | false =>
      rw [hz] at h
      exact r.get h
section
variable {X : Cx} {F0 H0 : Hp} {W : WX} {pos p pd pc pr px : Pos} {e a : Expr} {es : List Expr} {f : Sls → Res PyData} {fs : Sls → Res (List PyData)} {D x : Str} {tbl : List (Str × Addr)} {acts : List (Str × FnT)} {i j k n : Nat} {rest : List Stmt}
theorem ix_F {a : Addr} (T : TabF X.K X.w a tbl) : IxR X (fun x y H Q => x = .ref a ∧ ∃ z f, y = .str z ∧ tbl.lookup z = some f ∧ Q (.ref f) H) := by
  intro value slice pins s σ H x y v u Q I rx ry h hs
  obtain ⟨rfl, z, f, rfl, e, q⟩ := h
  obtain ⟨es, n, kd⟩ := T.kd
  obtain ⟨u0, h1, rfl⟩ := T.hit z f e
  exact ix_kdict value slice pins s σ H _ _ v u Q I rx ry ⟨a, z, .ref f, rfl, rfl, ⟨es, n, _, kd.at_, kd.lit, h1, rfl⟩, q⟩ hs
/-- a call of what stands in slot i -/
theorem pe_act (c : Cz X W k) (hj : j ≤ k) (hN : X.N[i]? = some x) (hv : Vis X.env.scope x) {ta : TA} (ha : PA X (e :: es) ta) (hdb : (x == ("__debug__" : Str)) = false := by decide) (hcd : (x == ("__classdict__" : Str)) = false := by decide)
    (he : starEach (e :: es) X.env = (false, eval e X.env) :: starEach es X.env := by rfl) (hpl : (backTo pos (starEach es X.env)).any (·.1) = false := by rfl) :
    PE X (.Call (.Name x p) (e :: es) [] pos) (fun σ H Q => ∃ f fd ps Fn, σ[i]? = some (some (.ref f)) ∧ FnD X.prog X.w X.K X.mg X.base j f fd ps Fn ∧ PySem.W.keepIn X.K (.ref f) = true ∧ Binds X.K fd ps [] ∧ ta σ H fun vs H1 => spD X.mg X.K ps.length Fn vs H1 Q (WE W σ)) := by
  refine ⟨fun pins s σ H Q I h => ?_⟩
  obtain ⟨f, fd, ps, Fn, hs, G, hk, hb, ht⟩ := h
  refine wpAny_Call_Name_kw (thn ((pe_var (pos := p) hN hv hdb hcd).run pins s σ H (fun v H1 => v = .ref f ∧ H1 = H) I ⟨.ref f, hs, rfl, rfl⟩) fun u s1 ⟨v, H1, I1, r1, q1⟩ => ?_)
  obtain ⟨rfl, rfl⟩ := q1
  cases r1
  refine PySem.W.callWith_K (h₀ := X.base) I.ok.mod.kin hk (thn (ha.run pos pins s1 σ _ _ I1 ht) fun us s2 ⟨vs, H2, I2, r, q⟩ => ⟨I2.kIn, ?_⟩) he hpl
  exact run_fnS (E := WE W) G (c.room.mono hj) hb (passAt c.tk σ) I2 r q
def gAct (i : Nat) (acts : List (Str × FnT)) (f : Sls → Res PyData) (fs : Sls → Res (List PyData)) : Sls → Out := sE f fun d ρ => match d with
  | .str z => (match acts.lookup z with
    | some Fn => if i < ρ.length then sE (fun ρ => fs ρ >>= Fn) (fun d _ => .rt d) (ρ.set i .un) else .bad
    | none => .bad)
  | _ => .bad
theorem dss_act (c : Cz X W k) (hj : j ≤ k) (hg : Gl X D) (T : ∃ a, X.mg D = some (.ref a) ∧ TabF X.K X.w a tbl) (A : Acts X.prog X.w X.K X.mg X.base j n tbl acts) (hN : X.N.Nodup) (hi : X.N[i]? = some x) (hx : Loc X.env.scope x) (hv : Vis X.env.scope x)
    (he : DE X F0 H0 W a f) (hs : PlainIx a) (ha : DA X F0 H0 W (e :: es) fs) (hn : ∀ ρ ds, fs ρ = .ok ds → ds.length = n) (hD : (D == ("__debug__" : Str)) = false := by decide)
    (hsw : swapsWith (.Subscript (.Name D pd) a px) (some (.Name x p)) pos.line X.env = pure false := by rfl) (hf : X.fn x = true ∨ X.env.scope.names.lookup x = some .local := by first | exact .inl rfl | exact .inr rfl | assumption)
    (hdb : (x == ("__debug__" : Str)) = false := by decide) (hcd : (x == ("__classdict__" : Str)) = false := by decide)
    (hst : starEach (e :: es) X.env = (false, eval e X.env) :: starEach es X.env := by rfl) (hpl : (backTo pc (starEach es X.env)).any (·.1) = false := by rfl) {q0 : Pos} :
    DSs X F0 H0 W [.Assign [.Name x p] (.Subscript (.Name D pd) a px) pos, .Return (some (.Call (.Name x q0) (e :: es) [] pc)) pr] (gAct i acts f fs) := by
  obtain ⟨ad, m, T⟩ := T
  refine PSs.imp (pss_cons (ps_set hN hi hx (pe_ix (ix_F T) (pe_globA hg m hD) he hs) hsw hf) (pss_one (ps_ret (pe_act c hj hi hv ha hdb hcd hst hpl)))) fun Dn σ H ⟨ρ, F, sr, q⟩ => ?_
  show rd X.mg X.K F0 H0 W (Den X.K) f σ H _
  obtain ⟨ρ1, F1, sr1, q1⟩ := fin_rd (R := Den X.K) sr q
  refine ⟨ρ1, F1, sr1, q1.imp fun v H1 F2 d g1 r1 kk => ?_⟩
  obtain ⟨a', F3, g3, r3, sr3, q3⟩ := kk v H1 F2 (.refl g1.fh) r1
  cases r3 with
  | str z =>
    simp only at q3
    cases e1 : acts.lookup z with
    | none => rw [e1] at q3; exact q3.elim
    | some Fn =>
      rw [e1] at q3
      simp only at q3
      obtain ⟨f0, fd, ps, h1, G, hk, hb, hl⟩ := A.get e1
      refine ⟨rfl, z, f0, rfl, h1, ?_⟩
      by_cases hlen : i < ρ.length
      · rw [if_pos hlen] at q3
        have sr4 := sr3.setU i (some (.ref f0))
        refine ⟨f0, fd, ps, Fn, by rw [List.getElem?_set_self (by rw [← sr3.len]; exact hlen)], G, hk, hb, ?_⟩
        refine ⟨ρ.set i .un, F3, sr4, ?_⟩
        unfold sE at q3
        cases e2 : fs (ρ.set i .un) with
        | bad => simp only [e2, bind_bad] at q3; exact q3.elim
        | exc y => simp only [e2, bind_exc] at q3; exact fun cls dd H2 F2 g r => q3 cls dd _ H2 F2 (sr4.grow g) g.ff r
        | ok ds =>
          simp only [e2, bind_ok] at q3
          intro vs H2 F2 g r
          refine ⟨ds, F2, by rw [r.length, hn _ ds e2, hl], g.fh, r, ?_⟩
          cases e3 : Fn ds with
          | bad => rw [e3] at q3; exact q3.elim
          | exc y => rw [e3] at q3; exact fun cls dd H4 F4 g4 r4 => q3 cls dd _ H4 F4 (sr4.grow (g.trans g4)) (g.ff.trans g4.ff) r4
          | ok d => rw [e3] at q3; exact fun v H4 F4 g4 r4 => q3 v H4 F4 (sr4.grow (g.trans g4)).gr (g.ff.trans g4.ff) r4
      · rw [if_neg hlen] at q3
        exact q3.elim
  | _ => exact q3.elim
end
/-! ### a key of a table of defs -/
def inK (ks : List Str) : PyData → Option PyData
  | .str z => some (.bool (ks.contains z))
  | _ => none
def notInK (ks : List Str) : PyData → Option PyData
  | .str z => some (.bool (!ks.contains z))
  | _ => none
theorem lookup_keys {α : Type} (z : Str) : ∀ tbl : List (Str × α), (tbl.lookup z).isSome = (tbl.map (·.1)).contains z
  | [] => rfl
  | (k, x) :: r => by
    rw [List.lookup_cons, List.map_cons, List.contains_cons]
    cases hz : z == k with
    | true => rfl
    | false => rw [Bool.false_or]; exact lookup_keys z r
theorem inT_keys {α : Type} (tbl : List (Str × α)) : inT tbl = inK (tbl.map (·.1)) := by
  funext d
  cases d <;> first | rfl | (show some (PyData.bool _) = some (.bool _); rw [lookup_keys])
theorem notInT_keys {α : Type} (tbl : List (Str × α)) : notInT tbl = notInK (tbl.map (·.1)) := by
  funext d
  cases d <;> first | rfl | (show some (PyData.bool _) = some (.bool _); rw [lookup_keys])
section
variable {X : Cx} {F0 H0 : Hp} {W : WX} {pos p : Pos} {e : Expr} {f : Sls → Res PyData} {D : Str} {tbl : List (Str × Addr)}
theorem de_inTF {ks : List Str} (hg : Gl X D) (T : ∃ a, X.mg D = some (.ref a) ∧ TabF X.K X.w a tbl) (ha : DE X F0 H0 W e f) (h : (D == ("__debug__" : Str)) = false := by decide) (hm : behindInMarks .In (.Name D p) = false := by rfl) (hk : tbl.map (·.1) = ks := by rfl) : DE X F0 H0 W (.Compare e [.In] [.Name D p] pos) (d1 (inK ks) f) := by
  subst hk; rw [← inT_keys]; exact de_inT hg T ha h hm
theorem dt_inTF {ks : List Str} (hg : Gl X D) (T : ∃ a, X.mg D = some (.ref a) ∧ TabF X.K X.w a tbl) (ha : DE X F0 H0 W e f) (h : (D == ("__debug__" : Str)) = false := by decide) (hm : behindInMarks .In (.Name D p) = false := by rfl) (hk : tbl.map (·.1) = ks := by rfl) : DT X F0 H0 W (.Compare e [.In] [.Name D p] pos) (dB (d1 (inK ks) f)) := by
  subst hk; rw [← inT_keys]; exact dt_inT hg T ha h hm
theorem de_notInTF {ks : List Str} (hg : Gl X D) (T : ∃ a, X.mg D = some (.ref a) ∧ TabF X.K X.w a tbl) (ha : DE X F0 H0 W e f) (h : (D == ("__debug__" : Str)) = false := by decide) (hm : behindInMarks .NotIn (.Name D p) = false := by rfl) (hk : tbl.map (·.1) = ks := by rfl) : DE X F0 H0 W (.Compare e [.NotIn] [.Name D p] pos) (d1 (notInK ks) f) := by
  subst hk; rw [← notInT_keys]; exact de_notInT hg T ha h hm
theorem dt_notInTF {ks : List Str} (hg : Gl X D) (T : ∃ a, X.mg D = some (.ref a) ∧ TabF X.K X.w a tbl) (ha : DE X F0 H0 W e f) (h : (D == ("__debug__" : Str)) = false := by decide) (hm : behindInMarks .NotIn (.Name D p) = false := by rfl) (hk : tbl.map (·.1) = ks := by rfl) : DT X F0 H0 W (.Compare e [.NotIn] [.Name D p] pos) (dB (d1 (notInK ks) f)) := by
  subst hk; rw [← notInT_keys]; exact dt_notInT hg T ha h hm
end
/-! ### max and min of two texts, of two truth values -/
section
variable {prog : Program} {w : World} {A : Around} {E : Value → Shared → Prop} {s : Shared}
theorem two_kept {s : Shared} {a b : Value} {h' : Heap} {o1 : Obj} (hk : ∀ c o, c ∉ [((s.heap.push { cls := .type "tuple", data := .seq #[a, b] }).objs.size : Addr)] → ((s.heap.push { cls := .type "tuple", data := .seq #[a, b] }).push o1).get? c = some o → h'.get? c = some o) : ∀ c o, s.heap.get? c = some o → h'.get? c = some o := fun c o e => by
  refine hk c o (fun hm => ?_) (Heap.get?_push_of_some _ (Heap.get?_push_of_some _ e))
  have hlt := Heap.lt_size e
  have hz : (s.heap.push { cls := .type "tuple", data := .seq #[a, b] }).objs.size = s.heap.objs.size + 1 := Heap.size_push ..
  rw [List.mem_singleton.mp hm, hz] at hlt
  exact Nat.lt_irrefl _ (Nat.lt_of_succ_lt hlt)
theorem pick_two {a b v : Value} {bt : Nat → Nat → Bool} (h : (#[a, b] : Array Value)[argBest bt 1]? = some v) : v = if bt 1 0 = true then b else a := by
  have e : argBest bt 1 = if bt 1 0 = true then 1 else 0 := rfl
  rw [e] at h
  cases hb : bt 1 0 with
  | true => rw [hb] at h; simpa using h.symm
  | false => rw [hb] at h; simpa using h.symm
theorem max_by {a b : Value} {bt : Nat → Nat → Bool} {Q : Value → Shared → Prop} (hh : A.handled = none) (hc : CmpOf prog w A.in1 .Gt (fun i v => (#[a, b] : Array Value)[i]? = some v) bt)
    (h : ∀ h' tk, (∀ c o, s.heap.get? c = some o → h'.get? c = some o) → Q (if bt 1 0 = true then b else a) { s with heap := h', toks := tk }) : wpAny (model prog w) A (call (.builtin "max") [a, b]) Q E s := by
  have ht : (s.heap.push { cls := .type "tuple", data := .seq #[a, b] }).IsTuple s.heap.objs.size #[a, b] := ⟨_, Heap.get?_push_size _ rfl, rfl, 0, rfl⟩
  have hz : (s.heap.push { cls := .type "tuple", data := .seq #[a, b] }).objs.size = s.heap.objs.size + 1 := Heap.size_push ..
  refine call_max_two (wpAny_pyIter_tuple ht ⟨_, [_, s.heap.objs.size], [_], _, _, _, _, rfl, Walks.tuple (A := A.in1) hh _ s.heap.objs.size (by rw [hz]; exact Nat.ne_of_lt (Nat.lt_succ_self _)) #[a, b], ⟨⟨_, Heap.get?_push_size _ rfl, rfl, rfl⟩, ht.push _⟩, fun c hm => ?_, Nat.zero_lt_succ _, hc, fun v h' tk hP hk => ?_⟩)
  · show c < ((s.heap.push _).push _).objs.size
    rw [Heap.size_push, hz]
    simp only [List.mem_cons, List.not_mem_nil, or_false] at hm
    rcases hm with rfl | rfl
    · rw [hz]; exact Nat.lt_succ_self _
    · exact Nat.lt_succ_of_lt (Nat.lt_succ_self _)
  · rw [pick_two hP]
    exact h h' tk (two_kept hk)
theorem min_by {a b : Value} {bt : Nat → Nat → Bool} {Q : Value → Shared → Prop} (hh : A.handled = none) (hc : CmpOf prog w A.in1 .Lt (fun i v => (#[a, b] : Array Value)[i]? = some v) bt)
    (h : ∀ h' tk, (∀ c o, s.heap.get? c = some o → h'.get? c = some o) → Q (if bt 1 0 = true then b else a) { s with heap := h', toks := tk }) : wpAny (model prog w) A (call (.builtin "min") [a, b]) Q E s := by
  have ht : (s.heap.push { cls := .type "tuple", data := .seq #[a, b] }).IsTuple s.heap.objs.size #[a, b] := ⟨_, Heap.get?_push_size _ rfl, rfl, 0, rfl⟩
  have hz : (s.heap.push { cls := .type "tuple", data := .seq #[a, b] }).objs.size = s.heap.objs.size + 1 := Heap.size_push ..
  refine call_min_two (wpAny_pyIter_tuple ht ⟨_, [_, s.heap.objs.size], [_], _, _, _, _, rfl, Walks.tuple (A := A.in1) hh _ s.heap.objs.size (by rw [hz]; exact Nat.ne_of_lt (Nat.lt_succ_self _)) #[a, b], ⟨⟨_, Heap.get?_push_size _ rfl, rfl, rfl⟩, ht.push _⟩, fun c hm => ?_, Nat.zero_lt_succ _, hc, fun v h' tk hP hk => ?_⟩)
  · show c < ((s.heap.push _).push _).objs.size
    rw [Heap.size_push, hz]
    simp only [List.mem_cons, List.not_mem_nil, or_false] at hm
    rcases hm with rfl | rfl
    · rw [hz]; exact Nat.lt_succ_self _
    · exact Nat.lt_succ_of_lt (Nat.lt_succ_self _)
  · rw [pick_two hP]
    exact h h' tk (two_kept hk)
/-- the items, by their places -/
theorem two_items {a b v : Value} {i : Nat} (h : (#[a, b] : Array Value)[i]? = some v) : (i = 0 ∧ v = a) ∨ (i = 1 ∧ v = b) := by
  match i, h with
  | 0, h => exact .inl ⟨rfl, by simpa using h.symm⟩
  | 1, h => exact .inr ⟨rfl, by simpa using h.symm⟩
  | i + 2, h => simp at h
end
def keyS (x y : Str) : Nat → Str
  | 0 => x
  | _ => y
def keyB (x y : Bool) : Nat → Bool
  | 0 => x
  | _ => y
def max2D : List PyData → Option PyData
  | [.int i, .int j] => some (.int (if j > i then j else i))
  | [.str x, .str y] => some (.str (if x.cps.toList < y.cps.toList then y else x))
  | [.bool x, .bool y] => some (.bool (x || y))
  | _ => none
def min2D : List PyData → Option PyData
  | [.int i, .int j] => some (.int (if j < i then j else i))
  | [.str x, .str y] => some (.str (if y.cps.toList < x.cps.toList then y else x))
  | [.bool x, .bool y] => some (.bool (x && y))
  | _ => none
section
variable {X : Cx}
theorem call_max2W (hc : X.calm = true) : CallR X (.builtin "max") (rL X.K max2D) := by
  intro pins s σ H xs us Q I r h
  obtain ⟨as, F, ex, da, q⟩ := h
  cases da with
  | nil => exact q.elim
  | cons d1 d2 =>
    cases d2 with
    | nil => cases d1 <;> exact q.elim
    | cons d3 d4 =>
      cases d4 with
      | cons _ _ => cases d1 <;> cases d3 <;> exact q.elim
      | nil =>
        cases d1 with
        | int i =>
          cases d3 with
          | int j => exact call_max2 hc pins s σ H _ us Q I r ⟨i, j, rfl, q.val ex (.int _)⟩
          | _ => exact q.elim
        | str x =>
          cases d3 with
          | str y =>
            obtain ⟨u, w', rfl, ⟨t, rfl⟩, ⟨t', rfl⟩⟩ := vals2 r
            refine max_by (bt := fun i j => decide ((keyS x y j).cps.toList < (keyS x y i).cps.toList)) (I.ok.hd hc) (fun i j vi vj s Q E hi hj hQ => ?_) fun h' tk k => ⟨.str _, H, I.kept k, ?_, q.val ex (.str _)⟩
            · rcases two_items hi with ⟨rfl, rfl⟩ | ⟨rfl, rfl⟩ <;> rcases two_items hj with ⟨rfl, rfl⟩ | ⟨rfl, rfl⟩ <;> exact more_str hQ
            · show RelV _ (if decide (x.cps.toList < y.cps.toList) = true then _ else _)
              by_cases hz : x.cps.toList < y.cps.toList
              · rw [if_pos hz, if_pos (decide_eq_true hz)]; exact ⟨_, rfl⟩
              · rw [if_neg hz, if_neg (by simpa using hz)]; exact ⟨_, rfl⟩
          | _ => exact q.elim
        | bl x =>
          cases d3 with
          | bl y =>
            obtain ⟨u, w', rfl, rfl, rfl⟩ := vals2 r
            refine max_by (bt := fun i j => decide (b2i (keyB x y j) < b2i (keyB x y i))) (I.ok.hd hc) (fun i j vi vj s Q E hi hj hQ => ?_) fun h' tk k => ⟨.bl _, H, I.kept k, ?_, q.val ex (.bl _)⟩
            · rcases two_items hi with ⟨rfl, rfl⟩ | ⟨rfl, rfl⟩ <;> rcases two_items hj with ⟨rfl, rfl⟩ | ⟨rfl, rfl⟩ <;> exact gt_bool hQ
            · show RelV _ (if decide (b2i x < b2i y) = true then _ else _)
              cases x <;> cases y <;> rfl
          | _ => exact q.elim
        | _ => cases d3 <;> exact q.elim
theorem call_min2W (hc : X.calm = true) : CallR X (.builtin "min") (rL X.K min2D) := by
  intro pins s σ H xs us Q I r h
  obtain ⟨as, F, ex, da, q⟩ := h
  cases da with
  | nil => exact q.elim
  | cons d1 d2 =>
    cases d2 with
    | nil => cases d1 <;> exact q.elim
    | cons d3 d4 =>
      cases d4 with
      | cons _ _ => cases d1 <;> cases d3 <;> exact q.elim
      | nil =>
        cases d1 with
        | int i =>
          cases d3 with
          | int j => exact call_min2 hc pins s σ H _ us Q I r ⟨i, j, rfl, q.val ex (.int _)⟩
          | _ => exact q.elim
        | str x =>
          cases d3 with
          | str y =>
            obtain ⟨u, w', rfl, ⟨t, rfl⟩, ⟨t', rfl⟩⟩ := vals2 r
            refine min_by (bt := fun i j => decide ((keyS x y i).cps.toList < (keyS x y j).cps.toList)) (I.ok.hd hc) (fun i j vi vj s Q E hi hj hQ => ?_) fun h' tk k => ⟨.str _, H, I.kept k, ?_, q.val ex (.str _)⟩
            · rcases two_items hi with ⟨rfl, rfl⟩ | ⟨rfl, rfl⟩ <;> rcases two_items hj with ⟨rfl, rfl⟩ | ⟨rfl, rfl⟩ <;> exact P.lt_str hQ
            · show RelV _ (if decide (y.cps.toList < x.cps.toList) = true then _ else _)
              by_cases hz : y.cps.toList < x.cps.toList
              · rw [if_pos hz, if_pos (decide_eq_true hz)]; exact ⟨_, rfl⟩
              · rw [if_neg hz, if_neg (by simpa using hz)]; exact ⟨_, rfl⟩
          | _ => exact q.elim
        | bl x =>
          cases d3 with
          | bl y =>
            obtain ⟨u, w', rfl, rfl, rfl⟩ := vals2 r
            refine min_by (bt := fun i j => decide (b2i (keyB x y i) < b2i (keyB x y j))) (I.ok.hd hc) (fun i j vi vj s Q E hi hj hQ => ?_) fun h' tk k => ⟨.bl _, H, I.kept k, ?_, q.val ex (.bl _)⟩
            · rcases two_items hi with ⟨rfl, rfl⟩ | ⟨rfl, rfl⟩ <;> rcases two_items hj with ⟨rfl, rfl⟩ | ⟨rfl, rfl⟩ <;> exact lt_bool hQ
            · show RelV _ (if decide (b2i y < b2i x) = true then _ else _)
              cases x <;> cases y <;> rfl
          | _ => exact q.elim
        | _ => cases d3 <;> exact q.elim
end
/-! ### x.find(y) -/
def findD (a : PyData) (as : List PyData) : Option PyData := match a, as with
  | .str x, [.str y] => some (.int (Txt.find x y))
  | _, _ => none
theorem mt_findD {X : Cx} : MtR X "str.find" (rM X.K findD) := by
  intro pins s σ H x xs v us Q I rx rs h
  obtain ⟨a, as, F, ex, da, das, q⟩ := h
  cases da with
  | str z =>
    cases das with
    | nil => exact q.elim
    | cons d1 d2 =>
      cases d2 with
      | cons _ _ => cases d1 <;> exact q.elim
      | nil =>
        cases d1 with
        | str y => exact mt_find pins s σ H _ _ v us Q I rx rs ⟨z, y, rfl, rfl, q.val ex (.int _)⟩
        | _ => exact q.elim
  | _ => exact q.elim
/-! ### int(x), of a text too -/
def intXD : List PyData → Option PyData
  | [.int i] => some (.int i)
  | [.bool b] => some (.int (if b = true then 1 else 0))
  | [.str z] => if z.length ≤ 640 then (PySem.intText? z).map .int else none
  | _ => none
theorem call_intX {X : Cx} : CallR X (.type "int") (rL X.K intXD) := by
  intro pins s σ H xs us Q I r h
  obtain ⟨as, F, ex, da, q⟩ := h
  cases da with
  | nil => exact q.elim
  | cons d1 d2 =>
    cases d2 with
    | cons _ _ => cases d1 <;> exact q.elim
    | nil =>
      cases d1 with
      | int i => exact call_int1 pins s σ H _ us Q I r (.inl ⟨i, rfl, q.val ex (.int _)⟩)
      | bl b => exact call_int1 pins s σ H _ us Q I r (.inr ⟨b, rfl, q.val ex (.int _)⟩)
      | str z =>
        have q' : Rop X.K (if z.length ≤ 640 then (PySem.intText? z).map .int else none) H F Q := q
        by_cases hz : z.length ≤ 640
        · rw [if_pos hz] at q'
          cases e : PySem.intText? z with
          | none => rw [e] at q'; exact q'.elim
          | some n => rw [e] at q'; exact call_int_str pins s σ H _ us Q I r ⟨z, n, rfl, e, hz, q'.val ex (.int n)⟩
        · rw [if_neg hz] at q'
          exact q'.elim
      | _ => exact q.elim
/-! ### a sign, so many times -/
def mulVD (a b : PyData) : Option PyData := match a, b with
  | .str x, .int n => if 0 ≤ n ∧ n ≤ 1000 ∧ x.length = 1 then some (.str (Txt.mul x n)) else none
  | a, b => mulD a b
theorem mulOk_one {x : Str} {n : Int} (h0 : 0 ≤ n) (h1 : n ≤ 1000) (hx : x.length = 1) : MulOk x n := by
  refine ⟨?_, fun hn _ => ?_, fun hn _ => ?_⟩
  · have a1 : ¬ n < -(2 ^ 63 : Int) := by omega
    have a2 : ¬ n ≥ (2 ^ 63 : Int) := by omega
    rw [decide_eq_false a1, decide_eq_false a2]; rfl
  · rw [hx]
    have : (1 : Int) ≤ (2 ^ 63 - 1) / n := Int.le_ediv_of_mul_le (by omega) (by omega)
    omega
  · rw [hx]
    have : n.toNat ≤ 1000 := by omega
    show decide (1 * n.toNat > sizeLine) = false
    rw [line24]
    exact decide_eq_false (by omega)
theorem op_mulV {X : Cx} : OpR X (binaryOp .Mult) (r2 X.K mulVD) := by
  intro pins s σ H x y v u Q I rx ry h
  obtain ⟨a, b, F, ex, da, db, q⟩ := h
  cases da with
  | str z =>
    cases db with
    | int n =>
      have q' : Rop X.K (if 0 ≤ n ∧ n ≤ 1000 ∧ z.length = 1 then some (.str (Txt.mul z n)) else none) H F Q := q
      by_cases hz : 0 ≤ n ∧ n ≤ 1000 ∧ z.length = 1
      · rw [if_pos hz] at q'
        obtain ⟨t, rfl⟩ := rx
        obtain ⟨t', rfl⟩ := ry
        exact SB.mul (mulOk_one hz.1 hz.2.1 hz.2.2) fun t'' k => ⟨.str _, H, I.tok k, ⟨t'', rfl⟩, q'.val ex (.str _)⟩
      · rw [if_neg hz] at q'; exact q'.elim
    | _ => exact q.elim
  | int i => exact op_mulD pins s σ H _ _ v u Q I rx ry ⟨_, b, F, ex, .int i, db, by cases db <;> exact q⟩
  | _ => cases db <;> exact q.elim
/-! ### an own list is looked at, and stays one's own -/
def dBrw (i : Nat) (f : Sls → Res PyData) (ρ : Sls) : Res PyData := flatR (f (frz i ρ))
def tBrw (i : Nat) (t : Sls → Res Bool) (ρ : Sls) : Res Bool := boolR (t (frz i ρ))
end DL

/-! DL10: zip of lists and tuples in any mix, enumerate of a list, range with a step. -/
namespace DL
open PySem PySem.Spec PyProof.Rows L2

/-- a list (true) or a tuple -/
def SqA (K : PySem.W.Frag) (H : Hp) : Bool → Addr → List V → Prop
  | true, a, xs => SqL K H a xs
  | false, a, xs => SqT K H a xs
def IsSeq (h : Heap) : Bool → Addr → Array Value → Prop
  | true, a, its => h.IsList a its
  | false, a, its => h.IsTuple a its
def IsIt (h : Heap) : Bool → Addr → Addr → Nat → Prop
  | true, it, a, i => h.IsListIter it a i
  | false, it, a, i => h.IsTupleIter it a i
def itObj : Bool → Addr → Obj
  | true, a => { cls := .type "list_iterator", data := .fields #[.ref a, .int 0 0] }
  | false, a => { cls := .type "tuple_iterator", data := .fields #[.ref a, .int 0 0] }
section
variable {X : Cx} {pins : List (Addr × Obj)} {σ : L2.St} {H : Hp} {s : Shared} {k : Bool} {a it : Addr} {i : Nat} {xs ys : List V} {h h' : Heap}
theorem seq_of (I : Inv X pins σ H s) (q : SqA X.K H k a xs) : ∃ its : List Value, Vals xs its ∧ IsSeq s.heap k a its.toArray := by
  cases k with
  | true =>
    obtain ⟨its, r, p, _⟩ := I.list q
    exact ⟨its, r, p.isList⟩
  | false =>
    obtain ⟨its, r, p, _⟩ := I.tuple q
    exact ⟨its, r, p⟩
theorem seq_inj (I : Inv X pins σ H s) (q : SqA X.K H k a xs) (q' : SqA X.K H k a ys) : xs = ys := by
  cases k with
  | true => exact I.list_inj q q'
  | false => exact I.tuple_inj q q'
theorem IsIt.obj (q : IsIt h k it a i) : ∃ o, h.get? it = some o ∧ ∀ v, o.data ≠ .cell v := by
  cases k with
  | true => obtain ⟨o, e, _, d⟩ := q; exact ⟨o, e, fun v z => by rw [d] at z; cases z⟩
  | false => obtain ⟨o, e, _, d⟩ := q; exact ⟨o, e, fun v z => by rw [d] at z; cases z⟩
theorem IsIt.at (q : IsIt h k it a i) (e : ∀ o, h.get? it = some o → h'.get? it = some o) : IsIt h' k it a i := by
  cases k with
  | true => exact Heap.IsListIter.at q e
  | false => exact Heap.IsTupleIter.at q e
theorem IsSeq.lt {its : Array Value} (q : IsSeq h k a its) : a < h.objs.size := by
  cases k with
  | true => obtain ⟨o, e, _⟩ := q; exact Heap.lt_size e
  | false => obtain ⟨o, e, _⟩ := q; exact Heap.lt_size e
theorem drawsA {P : Program} {w : World} {A : Around} (hh : A.handled = none) (k : Bool) (it a : Addr) (hne : a ≠ it) (its : Array Value) :
    Draws P w A it [it, a] its.size (fun i v => its[i]? = some v) (fun i h => IsIt h k it a i ∧ IsSeq h k a its) := by
  cases k with
  | true => exact Draws.list hh it a hne its
  | false => exact Draws.tuple hh it a hne its
theorem beginsA (k : Bool) (a : Addr) (its : Array Value) : Begins (.ref a) (itObj k a) fun h => IsSeq h k a its := by
  cases k with
  | true => exact begins_list a its
  | false => exact begins_tuple a its
theorem isit_new (k : Bool) (a it : Addr) (e : h.get? it = some (itObj k a)) : IsIt h k it a 0 := by
  cases k with
  | true => exact ⟨_, e, rfl, rfl⟩
  | false => exact ⟨_, e, rfl, rfl⟩
end
/-- the items of both in new pairs -/
def ItzM (K : PySem.W.Frag) (k1 k2 : Bool) (a b : Addr) : It :=
  ⟨fun i H => ∃ (xs ys : List V) (x y : V), SqA K H k1 a xs ∧ SqA K H k2 b ys ∧ xs[i]? = some x ∧ ys[i]? = some y,
    fun i H v H' => ∃ T x y, v = .ref T ∧ H T = none ∧ H' = upd H T (.tup [x, y]) ∧ (∀ xs, SqA K H k1 a xs → xs[i]? = some x) ∧ ∀ ys, SqA K H k2 b ys → ys[i]? = some y,
    fun i H => ∃ xs ys : List V, SqA K H k1 a xs ∧ SqA K H k2 b ys ∧ i ≤ xs.length ∧ i ≤ ys.length ∧ (xs.length = i ∨ ys.length = i)⟩
theorem turn_zipM {P : Program} {w : World} {K : PySem.W.Frag} {elts : List Expr} {kk : Nat} {tpos : Pos} {a b z TI TO i1 i2 : Addr} {k1 k2 : Bool} (D : ZipSep2 z TI TO i1 i2 [i1, a] [i2, b]) :
    Turn P w K (.Tuple elts kk tpos) (ItzM K k1 k2 a b) [z, TI, TO, i1, i2] z (fun i h => IsZip h z TI TO .none ∧ IsTupOf2 h TI (.ref i1) (.ref i2) ∧ (∃ x y, IsTupOf2 h TO x y) ∧ IsIt h k1 i1 a i ∧ IsIt h k2 i2 b i) where
  mem := by simp
  obj := fun i h st c hc => by
    obtain ⟨hz, hTI, ⟨x, y, hTO⟩, h1, h2⟩ := st
    have e' : c = z ∨ c = TI ∨ c = TO ∨ c = i1 ∨ c = i2 := by simpa using hc
    rcases e' with q | q | q | q | q
    · rw [q]; exact ⟨_, hz, fun v q => nomatch q⟩
    · rw [q]; exact ⟨_, hTI, fun v q => nomatch q⟩
    · rw [q]; exact ⟨_, hTO, fun v q => nomatch q⟩
    · rw [q]; exact h1.obj
    · rw [q]; exact h2.obj
  keep := fun i h h' st k => by
    obtain ⟨hz, hTI, ⟨x, y, hTO⟩, h1, h2⟩ := st
    exact ⟨k z (by simp) _ hz, k TI (by simp) _ hTI, ⟨x, y, k TO (by simp) _ hTO⟩, h1.at fun o q => k i1 (by simp) o q, h2.at fun o q => k i2 (by simp) o q⟩
  item := by
    intro X hP hw hK hc i pins s σ H E I hf st hg
    subst hP hw hK
    obtain ⟨hz, hTI, ⟨x0, y0, hTO⟩, h1, h2⟩ := st
    obtain ⟨xs, ys, x, y, hqx, hqy, hx, hy⟩ := hg
    obtain ⟨its, rv, p⟩ := seq_of I hqx
    obtain ⟨its2, rv2, p2⟩ := seq_of I hqy
    obtain ⟨u, hu, ru⟩ := rv.get hx
    obtain ⟨u2, hu2, ru2⟩ := rv2.get hy
    have hzl : z < s.heap.objs.size := Heap.lt_size hz
    have hh : X.A.in1.handled = none := I.ok.hd hc
    have ne1 : a ≠ i1 := fun q => by
      obtain ⟨o, e, _⟩ := h1.obj
      have := D.sep2_1
      cases k1 with
      | true => obtain ⟨o1, e1, c1, _⟩ := h1; obtain ⟨o2, e2, c2, _⟩ := p; subst q; rw [e1] at e2; cases e2; rw [c1] at c2; exact absurd (Value.type.inj c2) (by decide)
      | false => obtain ⟨o1, e1, c1, _⟩ := h1; obtain ⟨o2, e2, c2, _⟩ := p; subst q; rw [e1] at e2; cases e2; rw [c1] at c2; exact absurd (Value.type.inj c2) (by decide)
    have ne2 : b ≠ i2 := fun q => by
      cases k2 with
      | true => obtain ⟨o1, e1, c1, _⟩ := h2; obtain ⟨o2, e2, c2, _⟩ := p2; subst q; rw [e1] at e2; cases e2; rw [c1] at c2; exact absurd (Value.type.inj c2) (by decide)
      | false => obtain ⟨o1, e1, c1, _⟩ := h2; obtain ⟨o2, e2, c2, _⟩ := p2; subst q; rw [e1] at e2; cases e2; rw [c1] at c2; exact absurd (Value.type.inj c2) (by decide)
    have l1 : i < its.toArray.size := by
      have := (List.getElem?_eq_some_iff.mp hu).1
      simpa using this
    have l2 : i < its2.toArray.size := by
      have := (List.getElem?_eq_some_iff.mp hu2).1
      simpa using this
    refine wpAny_pyNext_zipD2_item D (drawsA hh k1 i1 a ne1 its.toArray) (drawsA hh k2 i2 b ne2 its2.toArray) hz hTI hTO ⟨h1, p⟩ ⟨h2, p2⟩ l1 l2 fun x1 x2 h' tk y1 y2 z' TO' s1' s2' hT hsz hk => ?_
    have hx1 : x1 = u := by
      have e1 : its[i]? = some x1 := by simpa using y1
      rw [hu] at e1; cases e1; rfl
    have hx2 : x2 = u2 := by
      have e1 : its2[i]? = some x2 := by simpa using y2
      rw [hu2] at e1; cases e1; rfl
    subst hx1 hx2
    refine ⟨_, rfl, wpAny_letOwnedTupleGo_zip (s := { s with heap := h', toks := tk }) z' fun h'' z'' sb => ?_⟩
    have hT2 : h''.get? s.heap.objs.size = some { cls := .type "tuple", data := .seq #[x1, x2] } := (sb.2 _ (Nat.ne_of_gt hzl)).trans hT
    have new : ObjOk X.prog X.w (upd H s.heap.objs.size (.tup [x, y])) h'' s.heap.objs.size (.tup [x, y]) :=
      ⟨by show 2 ≤ sizeLine; decide, [x1, x2], .cons ru (.cons ru2 .nil), ⟨_, hT2, rfl, _, rfl⟩⟩
    have I1 : Inv X pins σ (upd H s.heap.objs.size (.tup [x, y])) { s with heap := h'', toks := tk } :=
      I.turnedNew (t' := tk) (ch := [z, TI, TO, i1, i2]) (fun c o hb q => (sb.2 c (fun q' => hb (by simp [q']))).trans (hk c o (fun q' => hb (by simp [q'])) (fun q' => hb (by simp [q'])) (fun q' => hb (by simp [q'])) (fun q' => hb (by simp [q'])) q)) hf (Nat.le_refl _) new
    refine ⟨.ref s.heap.objs.size, _, I1, rfl, ⟨_, x, y, rfl, I.hok.fresh (Nat.le_refl _), rfl, fun l hl => by rw [seq_inj I hl hqx]; exact hx, fun l hl => by rw [seq_inj I hl hqy]; exact hy⟩, ⟨z'', ?_, ⟨x1, x2, ?_⟩, ?_, ?_⟩, fun c hcm => ?_⟩
    · exact (sb.2 _ D.TIz).trans (hk _ _ D.TIz D.TITO D.TIi1 D.TIi2 hTI)
    · exact (sb.2 _ D.TOz).trans TO'
    · exact s1'.1.at fun o q => (sb.2 _ (Ne.symm D.zi1)).trans q
    · exact s2'.1.at fun o q => (sb.2 _ (Ne.symm D.zi2)).trans q
    · have hlt : c < s.heap.objs.size := by
        have e' : c = z ∨ c = TI ∨ c = TO ∨ c = i1 ∨ c = i2 := by simpa using hcm
        rcases e' with q | q | q | q | q
        · rw [q]; exact hzl
        · rw [q]; exact Heap.lt_size hTI
        · rw [q]; exact Heap.lt_size hTO
        · rw [q]; obtain ⟨_, e1, _⟩ := h1.obj; exact Heap.lt_size e1
        · rw [q]; obtain ⟨_, e2, _⟩ := h2.obj; exact Heap.lt_size e2
      rw [upd_ne (Nat.ne_of_lt hlt)]
      exact (hf c hcm).1
  done := by
    intro X hP hw hK hc i pins s σ H E I hf st hg
    subst hP hw hK
    obtain ⟨hz, hTI, ⟨x0, y0, hTO⟩, h1, h2⟩ := st
    obtain ⟨xs, ys, hqx, hqy, b1, b2, hend⟩ := hg
    obtain ⟨its, rv, p⟩ := seq_of I hqx
    obtain ⟨its2, rv2, p2⟩ := seq_of I hqy
    have hh : X.A.in1.handled = none := I.ok.hd hc
    have l1 := rv.length
    have l2 := rv2.length
    have ne1 : a ≠ i1 := fun q => by
      cases k1 with
      | true => obtain ⟨o1, e1, c1, _⟩ := h1; obtain ⟨o2, e2, c2, _⟩ := p; subst q; rw [e1] at e2; cases e2; rw [c1] at c2; exact absurd (Value.type.inj c2) (by decide)
      | false => obtain ⟨o1, e1, c1, _⟩ := h1; obtain ⟨o2, e2, c2, _⟩ := p; subst q; rw [e1] at e2; cases e2; rw [c1] at c2; exact absurd (Value.type.inj c2) (by decide)
    have ne2 : b ≠ i2 := fun q => by
      cases k2 with
      | true => obtain ⟨o1, e1, c1, _⟩ := h2; obtain ⟨o2, e2, c2, _⟩ := p2; subst q; rw [e1] at e2; cases e2; rw [c1] at c2; exact absurd (Value.type.inj c2) (by decide)
      | false => obtain ⟨o1, e1, c1, _⟩ := h2; obtain ⟨o2, e2, c2, _⟩ := p2; subst q; rw [e1] at e2; cases e2; rw [c1] at c2; exact absurd (Value.type.inj c2) (by decide)
    refine wpAny_pyNext_zipD2_end D (drawsA hh k1 i1 a ne1 its.toArray) (drawsA hh k2 i2 b ne2 its2.toArray) hz hTI hTO ⟨h1, p⟩ ⟨h2, p2⟩ (by simp; omega) (by simp; omega) (by simp; omega) fun h' tk hk => ⟨rfl, I.turnedL (t' := tk) (ch := [z, TI, TO, i1, i2]) (fun c o hb q =>
      hk c o (fun q' => hb (by simp [q'])) (fun q' => hb (by simp [q'])) (fun q' => hb (by simp [q'])) (fun q' => hb (by simp [q'])) q) hf⟩
  self := fun A i s Q E st h => wpAny_pyIter_zip st.1 h
def iZipM (K : PySem.W.Frag) (ta : TA) : TI := fun σ H R => ta σ H fun vs H1 => ∃ a b k1 k2 xs ys, vs = [.ref a, .ref b] ∧ SqA K H1 k1 a xs ∧ SqA K H1 k2 b ys ∧ R (ItzM K k1 k2 a b) H1
theorem pi_zipM {X : Cx} {e e2 : Expr} {ta : TA} {p pos tpos : Pos} {elts : List Expr} {kk : Nat} (hg : Gl X "zip") (hm : X.mg "zip" = none) (ha : PA X [e, e2] ta)
    (hs : starEach [e, e2] X.env = (false, eval e X.env) :: starEach [e2] X.env := by rfl) (hpl : (backTo pos (starEach [e2] X.env)).any (·.1) = false := by rfl) :
    PI X (.Tuple elts kk tpos) (.Call (.Name "zip" p) [e, e2] [] pos) (iZipM X.K ta) := by
  refine ⟨fun pins s σ H R I h => ?_⟩
  refine Call_ (ld_blt I hg hm PyProof.Rows.boot_zip (PyProof.Rows.callWith_type1 (thn (ha.run pos pins s σ H _ I h) fun us s1 ⟨vs, H1, I1, r1, q1⟩ => ?_) hs hpl))
  obtain ⟨a, b, k1, k2, xs, ys, ex, hqx, hqy, q⟩ := q1
  subst ex
  cases r1 with
  | cons r rr =>
    cases rr with
    | cons r' rr =>
      cases rr
      cases r
      cases r'
      have fresh5 : ∀ c, c ∈ [s1.heap.objs.size + 4, s1.heap.objs.size + 2, s1.heap.objs.size + 3, s1.heap.objs.size, s1.heap.objs.size + 1] → FpOk X pins H1 c := fun c hcm => by
        have e' : c = s1.heap.objs.size + 4 ∨ c = s1.heap.objs.size + 2 ∨ c = s1.heap.objs.size + 3 ∨ c = s1.heap.objs.size ∨ c = s1.heap.objs.size + 1 := by simpa using hcm
        have hle : s1.heap.objs.size ≤ c := by
          rcases e' with z | z | z | z | z
          · rw [z]; exact Nat.le_add_right _ _
          · rw [z]; exact Nat.le_add_right _ _
          · rw [z]; exact Nat.le_add_right _ _
          · rw [z]; exact Nat.le_refl _
          · rw [z]; exact Nat.le_add_right _ _
        exact I1.fpOk hle (I1.hok.fresh hle)
      obtain ⟨its, rv, p1⟩ := seq_of I1 hqx
      obtain ⟨its2, rv2, p2⟩ := seq_of I1 hqy
      refine zip_begins2 (beginsA k1 a its.toArray) (beginsA k2 b its2.toArray) p1 p2 fun h' hz hTI hTO h1 h2 hsz hk => wpAny_pyIter_zip hz ?_
      have I2 : Inv X pins σ H1 { s1 with heap := h' } := I1.kept (t' := s1.toks) hk
      refine ⟨s1.heap.objs.size + 4, [s1.heap.objs.size + 4, s1.heap.objs.size + 2, s1.heap.objs.size + 3, s1.heap.objs.size, s1.heap.objs.size + 1], _, _, H1, rfl, I2, turn_zipM (zip_sep2 (fp1 := [a]) (fp2 := [b]) (fun c hc => ?_) (fun c hc => ?_)), ⟨hz, hTI, ⟨_, _, hTO⟩, isit_new k1 a _ h1, isit_new k2 b _ h2⟩, fresh5, q⟩
      · rw [List.mem_singleton.mp hc]; exact p1.lt
      · rw [List.mem_singleton.mp hc]; exact p2.lt

/-! ### as data -/
def pairD (p : PyData × PyData) : PyData := .tuple [p.1, p.2]
def zipD (xs ys : List PyData) : List PyData := (xs.zip ys).map pairD
theorem SqA.ex {K : PySem.W.Frag} {H H' : Hp} {k : Bool} {a : Addr} {xs : List V} (e : Ex H H') (q : SqA K H k a xs) : SqA K H' k a xs := by
  cases k with
  | true => exact e.sl q
  | false => exact e.st q
theorem zip_get : ∀ {α β : Type} {xs : List α} {ys : List β} {i : Nat} {p : α × β}, (xs.zip ys)[i]? = some p → xs[i]? = some p.1 ∧ ys[i]? = some p.2
  | _, _, [], _, _, _, e => by simp at e
  | _, _, _ :: _, [], _, _, e => by simp at e
  | _, _, x :: xs, y :: ys, 0, p, e => by simp at e; subst e; exact ⟨rfl, rfl⟩
  | _, _, x :: xs, y :: ys, i + 1, p, e => by
    rw [List.zip_cons_cons, List.getElem?_cons_succ] at e
    simpa using zip_get e
theorem itok_z {K : PySem.W.Frag} {F1 : Hp} {k1 k2 : Bool} {a b : Addr} {xs ys : List V} {ds es : List PyData} (h1 : SqA K F1 k1 a xs) (h2 : SqA K F1 k2 b ys) (q1 : Dens K F1 xs ds) (q2 : Dens K F1 ys es) : ItOk K (ItzM K k1 k2 a b) (zipD ds es) F1 := by
  have hl : (zipD ds es).length = min ds.length es.length := by unfold zipD; simp
  have l1 := q1.length
  have l2 := q2.length
  refine ⟨fun i H e hi => ?_, fun i H e hi => ?_, fun i H x H' F d e1 e2 hd y => ?_⟩
  · rw [hl] at hi
    obtain ⟨v, hv, _⟩ := q1.get (List.getElem?_eq_getElem (show i < ds.length by omega))
    obtain ⟨u, hu, _⟩ := q2.get (List.getElem?_eq_getElem (show i < es.length by omega))
    exact ⟨xs, ys, v, u, h1.ex e, h2.ex e, hv, hu⟩
  · rw [hl] at hi
    exact ⟨xs, ys, h1.ex e, h2.ex e, by omega, by omega, by omega⟩
  · obtain ⟨T, v, u, rfl, hT, rfl, y1, y2⟩ := y
    unfold zipD at hd
    rw [List.getElem?_map] at hd
    cases e3 : (ds.zip es)[i]? with
    | none => rw [e3] at hd; cases hd
    | some p =>
      rw [e3] at hd
      cases hd
      obtain ⟨g1, g2⟩ := zip_get e3
      obtain ⟨v', hv, dv⟩ := q1.get g1
      obtain ⟨u', hu, du⟩ := q2.get g2
      have a1 := y1 xs (h1.ex (e1.trans e2))
      have a2 := y2 ys (h2.ex (e1.trans e2))
      rw [hv] at a1
      rw [hu] at a2
      cases a1
      cases a2
      have g := Gr.new (o := .tup [v, u]) e2 hT
      exact ⟨_, g, .tup (.inl (.inl upd_same)) (.cons ((dv.mono e1).mono g.ff) (.cons ((du.mono e1).mono g.ff) .nil))⟩
def seqZ : PyData → Option (List PyData)
  | .list ds => some ds
  | .tuple ds => some ds
  | _ => none
def zip2D : List PyData → Option (List PyData)
  | [x, y] => (seqZ x).bind fun ds => (seqZ y).bind fun es => some (zipD ds es)
  | _ => none
theorem den_seq {K : PySem.W.Frag} {F : Hp} {v : V} {d : PyData} {ds : List PyData} (h : Den K F v d) (q : seqZ d = some ds) : ∃ (k : Bool) (a : Addr) (xs : List V), v = .ref a ∧ SqA K F k a xs ∧ Dens K F xs ds := by
  cases h with
  | @lst a xs ds' h1 h2 => cases q; exact ⟨true, a, xs, rfl, h1, h2⟩
  | @tup a xs ds' h1 h2 => cases q; exact ⟨false, a, xs, rfl, h1, h2⟩
  | _ => cases q
section
variable {X : Cx} {F0 H0 : Hp} {W : WX} {pos : Pos} {tg l a b c e : Expr} {f : Sls → Res PyData} {fs : Sls → Res (List PyData)}
theorem di_zip {p tpos : Pos} {elts : List Expr} {kk : Nat} (hg : Gl X "zip") (hm : X.mg "zip" = none) (ha : DA X F0 H0 W [a, b] fs) (hs : starEach [a, b] X.env = (false, eval a X.env) :: starEach [b] X.env := by rfl) (hpl : (backTo pos (starEach [b] X.env)).any (·.1) = false := by rfl) :
    DI X F0 H0 W (.Tuple elts kk tpos) (.Call (.Name "zip" p) [a, b] [] pos) (dRng zip2D fs) := by
  refine PI.imp (pi_zipM hg hm ha hs hpl) fun σ H R ⟨ρ, F, sr, q⟩ => ⟨ρ, F, sr, ?_⟩
  unfold dRng at q
  cases e : fs ρ with
  | ok ds =>
    simp only [e, bind_ok] at q
    intro v H1 F1 g1 r1
    cases r1 with
    | nil => exact q.elim
    | cons h1 r2 =>
      cases r2 with
      | nil => exact q.elim
      | cons h2 r3 =>
        cases r3 with
        | cons _ _ => exact q.elim
        | @nil =>
          rename_i v1 d1 v2 d2
          cases e1 : seqZ d1 with
          | none => simp only [zip2D, e1] at q; exact q.elim
          | some ds1 =>
            cases e2 : seqZ d2 with
            | none => simp only [zip2D, e1, e2] at q; exact q.elim
            | some ds2 =>
              simp only [zip2D, e1, e2] at q
              obtain ⟨k1, a1, xs, rfl, s1, n1⟩ := den_seq h1 e1
              obtain ⟨k2, a2, ys, rfl, s2, n2⟩ := den_seq h2 e2
              exact ⟨a1, a2, k1, k2, xs, ys, rfl, s1.ex g1.fh, s2.ex g1.fh, q _ H1 F1 g1 (itok_z s1 s2 n1 n2)⟩
  | exc x => simp only [e, bind_exc] at q; exact q
  | bad => simp only [e, bind_bad] at q
/-- enumerate of a list -/
def enumD (ds : List PyData) : List PyData := (List.range ds.length).map fun i => .tuple [.int (i : Nat), ds.getD i .none]
theorem itok_e {K : PySem.W.Frag} {F1 : Hp} {a : Addr} {xs : List V} {ds : List PyData} (h1 : SqL K F1 a xs) (q1 : Dens K F1 xs ds) : ItOk K (Ite K a) (enumD ds) F1 := by
  have hl : (enumD ds).length = ds.length := by unfold enumD; simp
  have l1 := q1.length
  refine ⟨fun i H e hi => ?_, fun i H e hi => ⟨xs, e.sl h1, by omega⟩, fun i H x H' F d e1 e2 hd y => ?_⟩
  · rw [hl] at hi
    obtain ⟨v, hv, _⟩ := q1.get (List.getElem?_eq_getElem hi)
    exact ⟨xs, v, e.sl h1, hv⟩
  · obtain ⟨T, v, rfl, hT, rfl, y1⟩ := y
    have hi : i < ds.length := by rw [← hl]; exact (List.getElem?_eq_some_iff.mp hd).1
    unfold enumD at hd
    rw [List.getElem?_map, List.getElem?_range hi] at hd
    cases hd
    obtain ⟨v', hv, dv⟩ := q1.get (List.getElem?_eq_getElem hi)
    have a1 := y1 xs ((e1.trans e2).sl h1)
    rw [hv] at a1
    cases a1
    have g := Gr.new (o := .tup [.int (i : Nat), v]) e2 hT
    have e3 : ds.getD i .none = ds[i] := by rw [List.getD_eq_getElem?_getD, List.getElem?_eq_getElem hi]; rfl
    show ∃ F', Gr F H F' _ ∧ Den K F' _ (.tuple [.int (i : Nat), ds.getD i .none])
    rw [e3]
    exact ⟨_, g, .tup (.inl (.inl upd_same)) (.cons (.int _) (.cons ((dv.mono e1).mono g.ff) .nil))⟩
def enum1 : List PyData → Option (List PyData)
  | [.list ds] => some (enumD ds)
  | _ => none
theorem di_enum {p tpos : Pos} {elts : List Expr} {kk : Nat} (hg : Gl X "enumerate") (hm : X.mg "enumerate" = none) (ha : DA X F0 H0 W [a] fs) (hs : starEach [a] X.env = [(false, eval a X.env)] := by rfl) :
    DI X F0 H0 W (.Tuple elts kk tpos) (.Call (.Name "enumerate" p) [a] [] pos) (dRng enum1 fs) := by
  refine PI.imp (pi_enum hg hm ha hs) fun σ H R ⟨ρ, F, sr, q⟩ => ⟨ρ, F, sr, ?_⟩
  unfold dRng at q
  cases e : fs ρ with
  | ok ds =>
    simp only [e, bind_ok] at q
    intro v H1 F1 g1 r1
    cases r1 with
    | nil => exact q.elim
    | cons h1 r2 =>
      cases r2 with
      | cons _ _ => cases h1 <;> exact q.elim
      | nil =>
        cases h1 with
        | @lst a xs ds h1 h2 => exact ⟨a, xs, rfl, g1.fh.sl h1, q _ H1 F1 g1 (itok_e h1 h2)⟩
        | _ => exact q.elim
  | exc x => simp only [e, bind_exc] at q; exact q
  | bad => simp only [e, bind_bad] at q
/-- range with a step of its own -/
def stepD (lo c : Int) (n : Nat) : List PyData := (List.range n).map fun i => .int (lo + (i : Nat) * c)
theorem itok_c {K : PySem.W.Frag} {F1 : Hp} {lo c : Int} {n : Nat} : ItOk K (Itc lo c n) (stepD lo c n) F1 := by
  have hl : (stepD lo c n).length = n := by simp [stepD]
  refine ⟨fun i H e hi => by rw [hl] at hi; exact hi, fun i H e hi => by rw [hl] at hi; exact Nat.le_of_eq hi, fun i H v H' F d e1 e2 hd y => ?_⟩
  obtain ⟨rfl, rfl⟩ := y
  have hi : i < n := by rw [← hl]; exact (List.getElem?_eq_some_iff.mp hd).1
  have : d = .int (lo + (i : Nat) * c) := by
    unfold stepD at hd
    rw [List.getElem?_map, List.getElem?_range hi] at hd
    cases hd
    rfl
  subst this
  exact ⟨F, .refl e2, .int _⟩
instance (i j c : Int) (n : Nat) : Decidable (RgC i j c n) := by unfold RgC; infer_instance
def rng3 : List PyData → Option (List PyData)
  | [.int i, .int j, .int c] => if RgC i j c (Builtin.Range.rangeSize i j c).toNat then some (stepD i c (Builtin.Range.rangeSize i j c).toNat) else none
  | _ => none
theorem di_range3 {p : Pos} (hg : Gl X "range") (hm : X.mg "range" = none) (ha : DA X F0 H0 W [a, b, c] fs) (hs : starEach [a, b, c] X.env = (false, eval a X.env) :: starEach [b, c] X.env := by rfl) (hpl : (backTo pos (starEach [b, c] X.env)).any (·.1) = false := by rfl) :
    DI X F0 H0 W tg (.Call (.Name "range" p) [a, b, c] [] pos) (dRng rng3 fs) := by
  refine PI.imp (pi_range3 hg hm ha hs hpl) fun σ H R ⟨ρ, F, sr, q⟩ => ⟨ρ, F, sr, ?_⟩
  unfold dRng at q
  cases e : fs ρ with
  | ok ds =>
    simp only [e, bind_ok] at q
    intro v H1 F1 g1 r1
    cases r1 with
    | nil => exact q.elim
    | cons h1 r2 =>
      cases r2 with
      | nil => cases h1 <;> exact q.elim
      | cons h2 r3 =>
        cases r3 with
        | nil => cases h1 <;> cases h2 <;> exact q.elim
        | cons h3 r4 =>
          cases r4 with
          | cons _ _ => cases h1 <;> cases h2 <;> cases h3 <;> exact q.elim
          | nil =>
            cases h1 with
            | int i =>
              cases h2 with
              | int j =>
                cases h3 with
                | int c =>
                  have q' := q
                  simp only [rng3] at q'
                  by_cases hz : RgC i j c (Builtin.Range.rangeSize i j c).toNat
                  · rw [if_pos hz] at q'
                    exact ⟨i, j, c, _, rfl, hz, q' _ H1 F1 g1 itok_c⟩
                  · rw [if_neg hz] at q'
                    exact q'.elim
                | _ => exact q.elim
              | _ => cases h3 <;> exact q.elim
            | _ => cases h2 <;> cases h3 <;> exact q.elim
  | exc x => simp only [e, bind_exc] at q; exact q
  | bad => simp only [e, bind_bad] at q
/-! ### methods of lists that change nothing -/
def dML (g : PyData → List PyData → Option PyData) (f : Sls → Res PyData) (fs : Sls → Res (List PyData)) (ρ : Sls) : Res PyData := f ρ >>= fun x => match x with
  | .list z => fs ρ >>= fun xs => ofO (g (.list z) xs)
  | _ => .bad
theorem de_lm {o : Expr} {es : List Expr} {name : Str} {apos cpos : Pos} {id : String} {g : PyData → List PyData → Option PyData} (slot : Slot "list" name id) (hty : typeOf (.builtin id) = pure (.type "method_descriptor")) (hm : MtR X id (rM X.K g)) (ho : DE X F0 H0 W o f) (ha : DA X F0 H0 W (e :: es) fs)
    (hbase : attributeBase o name X.env (eval o X.env) = eval o X.env := by rfl)
    (hfew : ((backTo cpos (starEach (e :: es) X.env)).all (fun x => !x.1) && (backToKw cpos (keywordEach [] X.env)).all (fun x => x.1.isSome)
      && decide ((e :: es).length + ([] : List Keyword).length + (if ([] : List Keyword).isEmpty then 0 else 1) < 30)) = true := by rfl)
    (hline : (apos.endLine == cpos.line) = true := by rfl) (hs : starEach (e :: es) X.env = (false, eval e X.env) :: starEach es X.env := by rfl) (hplain : (backTo cpos (starEach es X.env)).any (·.1) = false := by rfl) :
    DE X F0 H0 W (.Call (.Attribute o name apos) (e :: es) [] cpos) (dML g f fs) := by
  refine PE.imp (pe_bm PySem.F.plainAttrs_list slot hty hm ho ha hbase hfew hline hs hplain) fun σ H Q ⟨ρ, F, sr, q⟩ => ?_
  obtain ⟨ρ1, F1, sr1, q1⟩ := rd_step (R := Den X.K) sr q
  refine ⟨ρ1, F1, sr1, q1.imp fun v H1 F2 a g1 r1 k => ?_⟩
  obtain ⟨a', F3, g3, r3, sr3, q3⟩ := k v H1 F2 (.refl g1.fh) r1
  cases r3 with
  | @lst p xs ds hl hd =>
    refine ⟨.inl ⟨rfl, xs, sr3.ex.sl hl⟩, ?_⟩
    obtain ⟨ρ4, F4, sr4, q4⟩ := rd_step (R := Dens X.K) sr3 q3
    refine ⟨ρ4, F4, sr4, q4.imp fun u H5 F5 b g5 r5 k5 => ?_⟩
    obtain ⟨b', F6, g6, r6, sr6, q6⟩ := k5 u H5 F5 (.refl g5.fh) r5
    exact ⟨.list ds, b', F6, sr6.ex, (Den.lst hl hd).mono g6.ff, r6, q6.rop⟩
  | _ => exact q3.elim
def indexD (a : PyData) (as : List PyData) : Option PyData := match a, as with
  | .list ds, [d] => if (noDics ds && noDic d && SeqAt.shaped (.list ds) && SeqAt.shaped d) = true then (ds.findIdx? fun z => PyData.eqv z d).map fun j => .int (j : Nat) else none
  | _, _ => none
theorem mt_indexL (hu : X.A.units + 65 < cLine) : MtR X "list.index" (rM X.K indexD) := by
  intro pins s σ H x xs v us Q I rx rs h
  obtain ⟨a, as, F, ex, da, das, q⟩ := h
  cases da with
  | @lst p ys ds hl hd =>
    cases das with
    | nil => exact q.elim
    | cons d1 d2 =>
      cases d2 with
      | cons _ _ => exact q.elim
      | @nil =>
        rename_i y d
        have q' : Rop X.K (if (noDics ds && noDic d && SeqAt.shaped (.list ds) && SeqAt.shaped d) = true then (ds.findIdx? fun z => PyData.eqv z d).map fun j => .int (j : Nat) else none) H F Q := q
        by_cases hz : (noDics ds && noDic d && SeqAt.shaped (.list ds) && SeqAt.shaped d) = true
        · rw [if_pos hz] at q'
          simp only [Bool.and_eq_true] at hz
          cases e : ds.findIdx? fun z => PyData.eqv z d with
          | none => rw [e] at q'; exact q'.elim
          | some j =>
            rw [e] at q'
            obtain ⟨hj, h1, h2⟩ := List.findIdx?_eq_some_iff_getElem.mp e
            refine mt_indexD hu pins s σ H _ _ v us Q I rx rs ⟨p, y, d, ds, j, ds[j], rfl, rfl, ((Den.lst hl hd).mono ex).dp (by simpa [noDic] using hz.1.1.1), (d1.mono ex).dp hz.1.1.2, hz.1.2, hz.2, List.getElem?_eq_getElem hj, h1, fun m z' hm hz' => ?_, q'.val ex (.int _)⟩
            have hm2 : m < ds.length := by omega
            rw [List.getElem?_eq_getElem hm2] at hz'
            cases hz'
            simpa using h2 m hm
        · rw [if_neg hz] at q'
          exact q'.elim
  | _ => exact q.elim
theorem units65 {k : Nat} {A : Around} (r : Room k A) : A.units + 65 < cLine := by have := r.un; omega
end
end DL

/-! DL11: sorted(list, key=a def of the program) over flat items. -/
namespace DL
open PySem PySem.Spec PyProof.Rows L2
open PySem.W (keyH_end KeepsBut copyHeap copyHeap_at copyHeap_old sortingHeap sortingHeap_old sorted_of_sort KeyedOut keyedOut_each EachIs AllAlike Sortable SortsAt dataLe dataKind alike hideAll hideAll_get hideAll_none of_hideAll)

mutual
inductive KR (h : Heap) (fs : List Addr) : Value → PyData → Prop where
  | non : KR h fs .none .none
  | bl (b : Bool) : KR h fs (.bool b) (.bool b)
  | int (i : Int) (t : Tok) : KR h fs (.int i t) (.int i)
  | str (x : Str) (t : Tok) : KR h fs (.str x t) (.str x)
  | tup {a : Addr} {o : Obj} {vs : Array Value} {n : Nat} {xs : List PyData} : h.get? a = some o → o.cls = .type "tuple" → o.data = .seq vs n → a ∉ fs → KRs h fs vs.toList xs → KR h fs (.ref a) (.tuple xs)
inductive KRs (h : Heap) (fs : List Addr) : List Value → List PyData → Prop where
  | nil : KRs h fs [] []
  | cons {v : Value} {vs : List Value} {d : PyData} {ds : List PyData} : KR h fs v d → KRs h fs vs ds → KRs h fs (v :: vs) (d :: ds)
end
section
variable {h h' : Heap} {fs : List Addr}
mutual
theorem KR.mono (k : ∀ b o, b ∉ fs → h.get? b = some o → h'.get? b = some o) : ∀ {v : Value} {d : PyData}, KR h fs v d → KR h' fs v d
  | _, _, .non => .non
  | _, _, .bl b => .bl b
  | _, _, .int i t => .int i t
  | _, _, .str x t => .str x t
  | _, _, .tup e c d n q => .tup (k _ _ n e) c d n (KRs.mono k q)
theorem KRs.mono (k : ∀ b o, b ∉ fs → h.get? b = some o → h'.get? b = some o) : ∀ {v : List Value} {d : List PyData}, KRs h fs v d → KRs h' fs v d
  | _, _, .nil => .nil
  | _, _, .cons q r => .cons (KR.mono k q) (KRs.mono k r)
end
mutual
theorem KR.reads : ∀ {v : Value} {d : PyData}, KR h fs v d → Reads h v d []
  | _, _, .non => .none
  | _, _, .bl b => .bool b
  | _, _, .int i t => .int i t
  | _, _, .str x t => .str x t
  | _, _, .tup e c d n q => .tuple e c d (KRs.reads q)
theorem KRs.reads : ∀ {v : List Value} {d : List PyData}, KRs h fs v d → ReadsAll h v d []
  | _, _, .nil => .nil
  | _, _, .cons q r => ReadsAll.cons (as := []) (bs := []) (KR.reads q) (KRs.reads r)
end
end
mutual
def tupOnly : PyData → Bool
  | .none => true
  | .bool _ => true
  | .int _ => true
  | .str _ => true
  | .tuple xs => tupOnlys xs
  | .list _ => false
  | .dict _ => false
def tupOnlys : List PyData → Bool
  | [] => true
  | x :: xs => tupOnly x && tupOnlys xs
end
section
variable {P : Program} {w : World} {K : PySem.W.Frag} {H F : Hp} {h : Heap} {fs : List Addr}
mutual
theorem kr_of (hok : HOk P w H h) (kin : K.In h) (ex : Ex F H) (nf : ∀ b ∈ fs, H b = none) (nk : ∀ b ∈ fs, K.lookup b = none) : ∀ {v : V} {d : PyData} {u : Value}, Den K F v d → tupOnly d = true → RelV v u → KR h fs u d
  | _, _, u, .non, _, r => by cases r; exact .non
  | _, _, u, .bl b, _, r => by cases r; exact .bl b
  | _, _, u, .int i, _, r => by obtain ⟨t, rfl⟩ := r; exact .int i t
  | _, _, u, .str x, _, r => by obtain ⟨t, rfl⟩ := r; exact .str x t
  | _, _, u, .lst _ _, t, _ => by simp [tupOnly] at t
  | _, _, u, .dic _ _, t, _ => by simp [tupOnly] at t
  | _, _, u, @Den.tup _ _ a xs ds s q, t, r => by
    have e : u = .ref a := r
    subst e
    have t' : tupOnlys ds = true := by simpa [tupOnly] using t
    rcases s with (s | ⟨o, s⟩) | ⟨o, its, n, hk, hc, hs, hz, rr⟩
    · obtain ⟨_, its, rv, ob, e, c, n, dd⟩ := hok a _ (ex a _ s)
      exact .tup e c dd (fun z => by have := ex a _ s; rw [nf a z] at this; cases this) (krs_of hok kin ex nf nk q t' (by simpa using rv))
    · obtain ⟨e0, _, its, rv, ob, e, c, n, dd⟩ := hok a _ (ex a _ s)
      exact .tup e c dd (fun z => by have := ex a _ s; rw [nf a z] at this; cases this) (krs_of hok kin ex nf nk q t' (by simpa using rv))
    · exact .tup (kin a o hk) hc hs (fun z => by rw [nk a z] at hk; cases hk) (krs_of hok kin ex nf nk q t' rr)
theorem krs_of (hok : HOk P w H h) (kin : K.In h) (ex : Ex F H) (nf : ∀ b ∈ fs, H b = none) (nk : ∀ b ∈ fs, K.lookup b = none) : ∀ {v : List V} {d : List PyData} {u : List Value}, Dens K F v d → tupOnlys d = true → Vals v u → KRs h fs u d
  | _, _, u, .nil, _, r => by cases r; exact .nil
  | _, _, u, .cons a b, t, r => by
    cases r with
    | cons r1 r2 =>
      simp only [tupOnlys, Bool.and_eq_true] at t
      exact .cons (kr_of hok kin ex nf nk a t.1 r1) (krs_of hok kin ex nf nk b t.2 r2)
end
end
abbrev H00 : Hp := fun _ => none
section
variable {P : Program} {w : World} {K : PySem.W.Frag} {mg : Str → Option Value} {base : Heap} {j : Nat} {f : Addr} {fd : FuncData} {x : Str} {Fn : List PyData → Res PyData} {A : Around} {outer : List PySem.Env} {s : Shared}
/-- a further state: what stood stands, the callers' frames up to slots -/
structure Stay (outer : List PySem.Env) (ex : List Addr) (s s' : Shared) : Prop where
  os : s'.os = s.os
  bare : AllBare s'.gens
  keep : ∀ b o, b ∉ frs outer → b ∉ ex → s.heap.get? b = some o → s'.heap.get? b = some o
  slot : ∀ b o, b ∉ ex → s.heap.get? b = some o → ∃ sl, s'.heap.get? b = some { o with slots := sl }
theorem Stay.refl {ex : List Addr} (hb : AllBare s.gens) : Stay outer ex s s := ⟨rfl, hb, fun _ _ _ _ e => e, fun b o _ e => ⟨o.slots, e⟩⟩
theorem Stay.trans {ex : List Addr} {s1 s2 s3 : Shared} (a : Stay outer ex s1 s2) (b : Stay outer ex s2 s3) : Stay outer ex s1 s3 :=
  ⟨b.os.trans a.os, b.bare, fun c o h1 h2 e => b.keep c o h1 h2 (a.keep c o h1 h2 e), fun c o h e => by
    obtain ⟨sl, e1⟩ := a.slot c o h e
    obtain ⟨sl2, e2⟩ := b.slot c _ h e1
    exact ⟨sl2, e2⟩⟩
theorem Stay.more {ex ex' : List Addr} {s1 s2 : Shared} (a : Stay outer ex s1 s2) (h : ∀ b ∈ ex, b ∈ ex') : Stay outer ex' s1 s2 :=
  ⟨a.os, a.bare, fun c o h1 h2 e => a.keep c o h1 (fun z => h2 (h c z)) e, fun c o h1 e => a.slot c o (fun z => h1 (h c z)) e⟩
theorem Env0.stay {ex : List Addr} {s' : Shared} (E0 : Env0 P w K mg base A outer s H00) (st : Stay outer ex s s') (hx : ∀ b ∈ ex, base.get? b = none ∧ b ∉ frs outer) (hz : ∃ z o, base.objs.size ≤ z ∧ z ∉ ex ∧ s.heap.get? z = some o) : Env0 P w K mg base A outer s' H00 := by
  have nb : ∀ b o, base.get? b = some o → b ∉ frs outer := fun b o e z => by
    have := (E0.funs.mem z).1
    rw [e] at this; cases this
  refine ⟨E0.frames, E0.mod, fun b o e => ⟨st.keep b o (nb b o e) (fun z => by rw [(hx b z).1] at e; cases e) (E0.bs b o e).1, rfl⟩, ?_, ?_, fun _ _ => rfl, fun _ _ e => (by cases e), st.bare⟩
  · obtain ⟨z, o, h1, h2, h3⟩ := hz
    obtain ⟨sl, e⟩ := st.slot z o h2 h3
    exact Nat.le_trans h1 (Nat.le_of_lt (Heap.lt_size e))
  · have go : ∀ l : List PySem.Env, (∀ b ∈ frs l, b ∈ frs outer) → s.heap.FunFrames base l → s'.heap.FunFrames base l := by
      intro l
      induction l with
      | nil => intro _ _; trivial
      | cons env r ih =>
        intro hs hl
        obtain ⟨hk, ⟨L, o, hf, hn, ho, hd⟩, hr⟩ := hl
        have hL : L ∈ frs outer := hs L (by unfold frs; rw [List.filterMap_cons, hf]; exact List.mem_cons_self)
        obtain ⟨sl, e⟩ := st.slot L o (fun z => (hx L z).2 hL) ho
        exact ⟨hk, ⟨L, _, hf, hn, e, hd⟩, ih (fun b hb => hs b (by unfold frs; rw [List.filterMap_cons, hf]; exact List.mem_cons_of_mem _ hb)) hr⟩
    exact go outer (fun _ h => h) E0.funs
theorem key_call (G : FnD P w K mg base j f fd [x] Fn) (hr : Room j A) (E0 : Env0 P w K mg base A outer s H00) (kin : K.In base) (hb : Binds K fd [x] []) {d k : PyData} {v : V} {u : Value} (dv : Den K H00 v d) (hk : Fn [d] = .ok k) (tk : tupOnly k = true) (r : RelV v u) (fs : List Addr)
    (hfs : ∀ b ∈ fs, (∃ o, s.heap.get? b = some o) ∧ base.get? b = none) (hz : ∃ z o, base.objs.size ≤ z ∧ s.heap.get? z = some o) : wpAny (model P w) A (call (.ref f) [u]) (fun y s' => Stay outer [] s s' ∧ KR s'.heap fs y k) (fun _ _ => False) s := by
  have kin' : K.In s.heap := fun a o e => (E0.bs a o (kin a o e)).1
  have bt := hb s [u] kin' rfl
  rw [List.append_nil] at bt
  refine wpAny_call (codeAny_mono (G.run A outer s H00 ⟨[u], []⟩ [u] [v] (fun v' H' => ∃ F', Ex F' H' ∧ Den K F' v' k) (fun _ _ _ => False) hr E0 bt (.cons r .nil) ?_) fun r s' hq => ?_)
  · refine ⟨[d], H00, rfl, .refl _, .cons dv .nil, ?_⟩
    rw [hk]
    exact fun v' H' F' g q => ⟨F', g.fh, q⟩
  · cases r with
    | error e => exact cx_false hq
    | ok fl =>
      cases fl with
      | ret u' =>
        obtain ⟨v', H', os, bare, un, hok, r', F', ex, dn⟩ := hq
        have st : Stay outer [] s s' := ⟨os, bare, fun b o h1 _ e => un.keep b o e rfl h1 (by simp), fun b o _ e => by
          by_cases z : b ∈ frs outer
          · exact un.slot b o e rfl z (by simp)
          · exact ⟨o.slots, un.keep b o e rfl z (by simp)⟩⟩
        have E1 := Env0.stay E0 st (fun b z => by cases z) (by obtain ⟨z, o, h1, h2⟩ := hz; exact ⟨z, o, h1, by simp, h2⟩)
        refine ⟨st, kr_of hok (fun a o e => (E1.bs a o (kin a o e)).1) ex (fun b z => ?_) (fun b z => ?_) dn tk r'⟩
        · obtain ⟨⟨o, e⟩, _⟩ := hfs b z
          exact un.free b o e rfl (by simp)
        · cases q : K.lookup b with
          | none => rfl
          | some o => have := kin b o q; rw [(hfs b z).2] at this; cases this
      | next => exact False.elim hq
      | brk => exact False.elim hq
      | cont => exact False.elim hq
theorem each_push {α β : Type} {R : α → β → Prop} {a : α} {b : β} (h : R a b) : ∀ {as : List α} {bs : List β}, EachIs R as bs → EachIs R (as ++ [a]) (bs ++ [b])
  | _, _, .nil => .cons h .nil
  | _, _, .cons q r => .cons q (each_push h r)
/-- the keys, one by one, then the sort -/
theorem sort_keys (G : FnD P w K mg base j f fd [x] Fn) (hr : Room j A) (E0 : Env0 P w K mg base A outer s H00) (kin : K.In base) (hb : Binds K fd [x] []) {key : PyData → PyData} {xs : List V} {vs : List Value} {ds : List PyData} {a kS : Addr} {e1 : Nat}
    (dx : Dens K H00 xs ds) (rx : Vals xs vs) (hk : ∀ d ∈ ds, Fn [d] = .ok (key d)) (tk : ∀ d ∈ ds, tupOnly (key d) = true) (hal : AllAlike (ds.map key)) (hsk : Sortable (ds.map key)) (hu : ∀ d ∈ ds, A.units + (key d).depth < cLine) (hZ : vs.length ≤ sizeLine)
    (nk : s.heap.get? kS = some (seqObj "list" #[] 0)) (na : s.heap.get? a = some (seqObj "list" #[] e1)) (hka : kS ≠ a) (bk : base.objs.size ≤ kS) (ba : base.objs.size ≤ a) (fk : kS ∉ frs outer) (fa : a ∉ frs outer) {E : Value → Shared → Prop} {Q : PySem.Fin → Shared → Prop}
    (fin : ∀ (s1 : Shared) h' t out c, Stay outer [kS] s s1 → KeepsBut a (hideAll s1.heap [kS]) h' → h'.get? a = some (seqObj "list" (List.toArray out) c) → KeyedOut false (ds.map key) vs out → Q (.done (.ret .none)) { s1 with heap := h', toks := t }) :
    wpAny (model P w) A (PyProof.Rows.ksk_rest a (.ref f) false vs.toArray e1 (.ref kS)) Q E s := by
  have lx := rx.length
  have ld := dx.length
  have none_of : ∀ b, base.objs.size ≤ b → base.get? b = none := fun b h => Heap.get?_none_of_le h
  unfold PyProof.Rows.ksk_rest
  refine wpAny_bind (wpAny_rule ?_)
  simp only [List.forIn_toArray]
  refine wpAny_bind (PyProof.Rows.ksk_fold (fun i s' => Stay outer [kS] s s' ∧ ∃ kA e, s'.heap.get? kS = some (seqObj "list" kA e) ∧ EachIs (fun u k => KR s'.heap (kS :: a :: frs outer) u k) kA.toList ((ds.map key).take i)) vs 0 s ⟨.refl E0.bare, #[], 0, nk, by rw [List.take_zero]; exact .nil⟩ ?one ?last)
  case one =>
    rintro i u s' hu' ⟨st, kA, e, nk', eachK⟩
    rw [Nat.zero_add] at eachK ⊢
    have hi : i < vs.length := (List.getElem?_eq_some_iff.mp hu').1
    have hid : i < ds.length := by omega
    have hix : i < xs.length := by omega
    have hd : ds[i]? = some ds[i] := List.getElem?_eq_getElem hid
    obtain ⟨v, hv, dv⟩ := dx.get hd
    obtain ⟨u2, hu2, ru⟩ := rx.get hv
    rw [hu'] at hu2
    cases hu2
    have E1 := Env0.stay E0 st (fun b z => by rw [List.mem_singleton.mp z]; exact ⟨none_of _ bk, fk⟩) ⟨a, _, ba, by simp [Ne.symm hka], na⟩
    have na' := st.keep a _ fa (by simp [Ne.symm hka]) na
    refine wpAny_bind (wpAny_attempt (wpAny_mono (key_call G hr E1 kin hb dv (hk _ (List.getElem_mem hid)) (tk _ (List.getElem_mem hid)) ru (kS :: a :: frs outer) (fun b z => ?_) ⟨a, _, ba, na'⟩) (fun y s2 hy => ?_) fun _ _ z => z.elim))
    · rcases List.mem_cons.mp z with z | z
      · rw [z]; exact ⟨⟨_, nk'⟩, none_of _ bk⟩
      · rcases List.mem_cons.mp z with z | z
        · rw [z]; exact ⟨⟨_, na'⟩, none_of _ ba⟩
        · obtain ⟨h1, o, h2, _⟩ := E1.funs.mem z
          exact ⟨⟨o, h2⟩, h1⟩
    · obtain ⟨st2, ky⟩ := hy
      have nk2 := st2.keep kS _ fk (by simp) nk'
      have lk := eachK.length
      rw [Array.length_toList, List.length_take, List.length_map] at lk
      have sz : kA.size ≤ sizeLine := by omega
      have upd1 := Heap.SameBut.update s2.heap kS (Obj.mapSeq fun (zs : Array Value) => zs.push y)
      obtain ⟨c2, hc2⟩ : ∃ c2, (s2.heap.update kS (Obj.mapSeq fun (zs : Array Value) => zs.push y)).get? kS = some (seqObj "list" (kA.push y) c2) := ⟨_, PyProof.Rows.get?_update_seq nk2 fun (zs : Array Value) => zs.push y⟩
      refine wpAny_bind (PyProof.Rows.listUpdate_at nk2 rfl ?_ sz (by show (kA.push y).size ≤ _; rw [Array.size_push]; omega))
      refine wpAny_pure ⟨rfl, ?_, kA.push y, c2, hc2, ?_⟩
      · refine st.trans (Stay.trans (st2.more fun b z => by cases z) ⟨rfl, st2.bare, fun b o _ hb2 e => ?_, fun b o hb2 e => ⟨o.slots, ?_⟩⟩)
        · exact (upd1.2 b (by simpa using hb2)).trans e
        · exact (upd1.2 b (by simpa using hb2)).trans e
      · have ek : (ds.map key).take (i + 1) = (ds.map key).take i ++ [key ds[i]] := by
          rw [List.take_add_one, List.getElem?_map, hd]; rfl
        have ea : (kA.push y).toList = kA.toList ++ [y] := by simp
        rw [ek, ea]
        have mv : ∀ {u : Value} {k : PyData}, KR s2.heap (kS :: a :: frs outer) u k → KR (s2.heap.update kS (Obj.mapSeq fun (zs : Array Value) => zs.push y)) (kS :: a :: frs outer) u k := fun {u k} q => q.mono fun b o hb2 e => (upd1.2 b (fun z => hb2 (by rw [z]; exact List.mem_cons_self))).trans e
        refine each_push (mv ky) (eachK.mono fun u k q => mv (q.mono fun b o hb2 e => st2.keep b o (fun z => hb2 (List.mem_cons_of_mem _ (List.mem_cons_of_mem _ z))) (by simp) e))
  case last =>
    rintro s1 ⟨st, kA, e, nk1, eachK⟩
    rw [Nat.zero_add, List.take_of_length_le (by rw [List.length_map]; omega)] at eachK
    have lk := eachK.length
    rw [Array.length_toList, List.length_map] at lk
    have na1 := st.keep a _ fa (by simp [Ne.symm hka]) na
    refine wpAny_bind (PyProof.Rows.listItems_at nk1 rfl ?_)
    have eachR : EachIs (fun u k => ∃ as, Reads s1.heap u k as) kA.toList (ds.map key) := eachK.mono fun u k q => ⟨[], q.reads⟩
    refine keyH_end (κ := dataKind s1.heap (ds.map key)) (h₁ := hideAll s1.heap [kS]) (fun b o _ e => of_hideAll _ e) (hideAll_none _ (by simp)) nk1 na1 hka (SortsAt.data (s := s1) eachR hal hsk (fun d hd => ?_)) (by omega) hZ fun h3 t3 c k3 n3 => fin s1 h3 t3 _ c st k3 n3 ⟨s1.heap, kA.toList, hal, rfl, eachR⟩
    obtain ⟨d0, h0, rfl⟩ := List.mem_map.mp hd
    exact hu d0 h0
theorem Dens.toFlat {K : PySem.W.Frag} {F : Hp} : ∀ {vs : List V} {ds : List PyData}, Dens K F vs ds → (∀ d ∈ ds, flatD d = true) → ∀ F2 : Hp, Dens K F2 vs ds
  | _, _, .nil, _, _ => .nil
  | _, _, .cons a b, h, F2 => .cons (a.toFlat (h _ List.mem_cons_self) F2) (Dens.toFlat b (fun d hd => h d (List.mem_cons_of_mem _ hd)) F2)
theorem each_zip : ∀ {xs : List V} {vs : List Value} {ds : List PyData}, Vals xs vs → xs.length = ds.length → EachIs (fun (u : Value) (p : V × PyData) => RelV p.1 u) vs (xs.zip ds)
  | _, _, [], .nil, _ => .nil
  | _, _, [], .cons _ _, h => by simp at h
  | _, _, _ :: _, .nil, h => by simp at h
  | _, _, d :: ds, .cons r q, h => .cons r (each_zip q (by simpa using h))
theorem vals_each : ∀ {us : List Value} {ps : List (V × PyData)}, EachIs (fun (u : Value) (p : V × PyData) => RelV p.1 u) us ps → Vals (ps.map (·.1)) us
  | _, _, .nil => .nil
  | _, _, .cons r q => .cons r (vals_each q)
theorem dens_pairs {K : PySem.W.Frag} {F : Hp} : ∀ {ps : List (V × PyData)}, (∀ p ∈ ps, Den K F p.1 p.2) → Dens K F (ps.map (·.1)) (ps.map (·.2))
  | [], _ => .nil
  | p :: ps, h => .cons (h p List.mem_cons_self) (dens_pairs fun q hq => h q (List.mem_cons_of_mem _ hq))
theorem pairs_dens {K : PySem.W.Frag} {F : Hp} : ∀ {vs : List V} {ds : List PyData}, Dens K F vs ds → ∀ p ∈ vs.zip ds, Den K F p.1 p.2
  | _, _, .nil, p, h => by simp at h
  | _, _, .cons a b, p, h => by
    rw [List.zip_cons_cons] at h
    rcases List.mem_cons.mp h with rfl | h
    · exact a
    · exact pairs_dens b p h
/-- sorted by keys, as data -/
noncomputable def byKey (key : PyData → PyData) (ds : List PyData) : List PyData := ds.mergeSort (dataLe false key)
def keyR (Fn : FnT) (d : PyData) : PyData := match Fn [d] with
  | .ok k => k
  | _ => .none
def isOkR (Fn : FnT) (d : PyData) : Bool := match Fn [d] with
  | .ok _ => true
  | _ => false
def tup1 : PyData → Bool
  | .tuple (_ :: _) => true
  | _ => false
def keysOk (ks : List PyData) : Bool := ks.all (fun k => tupOnly k && (tup1 k && decide (k.depth ≤ 100))) && ks.all fun k => ks.all fun k' => alike k k'
noncomputable def sortK (Fn : FnT) (ds : List PyData) : Res (List PyData) := if (ds.all flatD && ds.all (isOkR Fn) && keysOk (ds.map (keyR Fn)) && decide (ds.length ≤ 16777216)) = true then .ok (byKey (keyR Fn) ds) else .bad
end
section
variable {X : Cx} {pins : List (Addr × Obj)} {σ : L2.St} {H F : Hp} {s : Shared}
theorem sorted_by {j : Nat} {f : Addr} {fd : FuncData} {x : Str} {Fn : FnT} (G : FnD X.prog X.w X.K X.mg X.base j f fd [x] Fn) (hr : Room (j + 1) X.A) (hb : Binds X.K fd [x] []) (I : Inv X pins σ H s) (ex : Ex F H) {l : Addr} {xs : List V} {ds es : List PyData}
    (hl : SqL X.K H l xs) (dn : Dens X.K F xs ds) (hs : sortK Fn ds = .ok es) {Q : VK} (hQ : ∀ p ys, H p = none → Dens X.K F ys es → Q (.ref p) (upd H p (.lst ys))) :
    wpAny (model X.prog X.w) X.A (call (.builtin "sorted") [.ref l] [(Str.ofString "key", .ref f)]) (EP X pins σ Q) X.xe s := by
  unfold sortK at hs
  by_cases hz : (ds.all flatD && ds.all (isOkR Fn) && keysOk (ds.map (keyR Fn)) && decide (ds.length ≤ 16777216)) = true
  · rw [if_pos hz] at hs
    simp only [Bool.and_eq_true, keysOk, List.all_eq_true, decide_eq_true_eq, List.mem_map, forall_exists_index, and_imp, forall_apply_eq_imp_iff₂] at hz
    obtain ⟨⟨⟨z1, z2⟩, z3, z4⟩, z5⟩ := hz
    cases hs
    obtain ⟨vs, rx, pl, hlen⟩ := I.list hl
    have lx := rx.length
    have ld := dn.length
    have hlv : vs.length ≤ sizeLine := by omega
    have dH : Dens X.K H00 xs ds := dn.toFlat z1 H00
    have hkk : ∀ d ∈ ds, Fn [d] = .ok (keyR Fn d) := fun d hd => by
      have := z2 d hd
      unfold isOkR at this
      unfold keyR
      cases e : Fn [d] with
      | ok k => rfl
      | exc x => rw [e] at this; cases this
      | bad => rw [e] at this; cases this
    refine sorted_of_sort pl.isList hlv (PyProof.Rows.ksk_s1 _ _) (fun _ => PyProof.Rows.ksk_l1 _ _) fun E' => ?_
    rw [PyProof.Rows.ksk_t1]
    have atD := copyHeap_at s.heap vs
    have ltD := Heap.lt_size atD
    obtain ⟨e1, emp⟩ : ∃ e1, ((copyHeap s.heap vs).update (s.heap.objs.size + 1) (Obj.mapSeq fun _ => (#[] : Array Value))).get? (s.heap.objs.size + 1) = some (seqObj "list" #[] e1) := ⟨_, PyProof.Rows.get?_update_seq atD fun _ => #[]⟩
    have szK : (((copyHeap s.heap vs).update (s.heap.objs.size + 1) (Obj.mapSeq fun _ => (#[] : Array Value))).push (seqObj "tuple" vs.toArray 0)).objs.size = (copyHeap s.heap vs).objs.size + 1 := by rw [PyProof.Rows.size_push', Heap.size_update]
    unfold PyProof.Rows.ksk_tree
    refine wpAny_bind (PyProof.Rows.listItems_at atD rfl (wpAny_bind (PyProof.Rows.listUpdate_at atD rfl (wpAny_bind (PyProof.Rows.seqEpoch_at emp rfl (wpAny_bind (wpAny_newTuple (wpAny_bind (wpAny_newList (wpAny_holding ?_) (Nat.zero_le _))) (by show vs.length ≤ _; exact hlv))))) (by rw [List.size_toArray]; exact hlv) (Nat.zero_le _))))
    have e00 : Env0 X.prog X.w X.K X.mg X.base X.A X.stack s H00 := ⟨I.env0.frames, I.env0.mod, fun b o h => ⟨(I.env0.bs b o h).1, rfl⟩, I.env0.bsz, I.env0.funs, fun _ _ => rfl, fun _ _ e => (by cases e), I.env0.bare⟩
    have old : ∀ b o, s.heap.get? b = some o → (sortingHeap (copyHeap s.heap vs) (s.heap.objs.size + 1) vs).get? b = some o := fun b o e => sortingHeap_old (Nat.ne_of_lt (Nat.lt_succ_of_lt (Heap.lt_size e))) (copyHeap_old e)
    have st0 : Stay X.stack [] s { s with heap := sortingHeap (copyHeap s.heap vs) (s.heap.objs.size + 1) vs } := ⟨rfl, I.bare, fun b o _ _ e => old b o e, fun b o _ e => ⟨o.slots, old b o e⟩⟩
    obtain ⟨m, ⟨ol, es, ep, hol, _⟩, _⟩ := id I.loc
    have hbase : X.base.objs.size ≤ s.heap.objs.size := Nat.le_trans I.ok.bsz I.sz
    have E1 := (Env0.stay e00 st0 (fun b z => by cases z) ⟨X.env.locals, ol, Nat.le_trans I.ok.bsz I.ok.above, by simp, hol⟩).in1.in1
    have frl : ∀ b, s.heap.objs.size ≤ b → b ∉ frs X.stack := fun b hb2 z => by
      obtain ⟨_, o, h2, _⟩ := I.stack.mem z
      exact absurd (Heap.lt_size h2) (Nat.not_lt.mpr hb2)
    have gK : (sortingHeap (copyHeap s.heap vs) (s.heap.objs.size + 1) vs).get? ((copyHeap s.heap vs).objs.size + 1) = some (seqObj "list" #[] 0) := by
      rw [← szK]; exact Heap.get?_push_size _ rfl
    have gD : (sortingHeap (copyHeap s.heap vs) (s.heap.objs.size + 1) vs).get? (s.heap.objs.size + 1) = some (seqObj "list" #[] e1) := Heap.get?_push_of_some _ (Heap.get?_push_of_some _ emp)
    have hNk : s.heap.objs.size + 1 < (copyHeap s.heap vs).objs.size + 1 := Nat.lt_succ_of_lt ltD
    show wpAny _ _ (PyProof.Rows.ksk_rest _ _ _ _ _ (.ref _)) _ _ { s with heap := sortingHeap (copyHeap s.heap vs) (s.heap.objs.size + 1) vs }
    rw [szK]
    refine sort_keys (A := X.A.in1.in1) (s := { s with heap := sortingHeap (copyHeap s.heap vs) (s.heap.objs.size + 1) vs }) G ⟨hr.hd, by have := hr.dp; show X.A.depth + 3 * j + 5 < _; omega, by have := hr.un; show X.A.units + 1 + 1 + 16 * j + 200 < _; omega⟩ E1 I.ok.mod.kin hb dH rx hkk (fun d hd => (z3 d hd).1) (fun k hk k' hk' => ?_) (.inl fun k hk => ?_) (fun d hd => ?_) hlv gK gD (Nat.ne_of_gt hNk) (Nat.le_trans hbase (Nat.le_of_lt (Nat.lt_of_succ_lt hNk))) (Nat.le_succ_of_le hbase) (frl _ (Nat.le_of_lt (Nat.lt_of_succ_lt hNk))) (frl _ (Nat.le_succ _)) fun s1 h' t out c st kb hD ko => ⟨rfl, ?_⟩
    · obtain ⟨d, hd, rfl⟩ := List.mem_map.mp hk
      obtain ⟨d', hd', rfl⟩ := List.mem_map.mp hk'
      exact z4 d hd d' hd'
    · obtain ⟨d, hd, rfl⟩ := List.mem_map.mp hk
      have := (z3 d hd).2.1
      cases e : keyR Fn d with
      | tuple zs =>
        rw [e] at this
        cases zs with
        | nil => cases this
        | cons y ys => exact ⟨y, ys, rfl⟩
      | _ => rw [e] at this; cases this
    · have := hr.un
      have := (z3 d hd).2.2
      show X.A.units + 1 + 1 + _ < _
      omega
    · have lift : ∀ b o, b ∉ frs X.stack → s.heap.get? b = some o → h'.get? b = some o := fun b o hf e => by
        have hb2 : b < s.heap.objs.size := Heap.lt_size e
        have nK : b ≠ (copyHeap s.heap vs).objs.size + 1 := Nat.ne_of_lt (Nat.lt_trans hb2 (Nat.lt_of_succ_lt hNk))
        have q1 := st.keep b o hf (by simpa using nK) (old b o e)
        exact kb b o (Nat.ne_of_lt (Nat.lt_succ_of_lt hb2)) (hideAll_get _ q1 (by simpa using nK))
      have lifts : ∀ b o, s.heap.get? b = some o → ∃ sl, h'.get? b = some { o with slots := sl } := fun b o e => by
        have hb2 : b < s.heap.objs.size := Heap.lt_size e
        have nK : b ≠ (copyHeap s.heap vs).objs.size + 1 := Nat.ne_of_lt (Nat.lt_trans hb2 (Nat.lt_of_succ_lt hNk))
        obtain ⟨sl, q1⟩ := st.slot b o (by simpa using nK) (old b o e)
        exact ⟨sl, kb b _ (Nat.ne_of_lt (Nat.lt_succ_of_lt hb2)) (hideAll_get _ q1 (by simpa using nK))⟩
      have kz : (xs.zip ds).map (fun p => keyR Fn p.2) = ds.map (keyR Fn) := by
        rw [show (fun p : V × PyData => keyR Fn p.2) = keyR Fn ∘ Prod.snd from rfl, ← List.map_map, List.map_snd_zip (by omega)]
      have eo := keyedOut_each (bs := xs.zip ds) (fun p => keyR Fn p.2) (by rw [kz]; exact ko) (each_zip rx (by omega))
      have hfresh : H (s.heap.objs.size + 1) = none := I.hok.fresh (Nat.le_succ _)
      have vy := vals_each eo
      have dy : Dens X.K F (((xs.zip ds).mergeSort (dataLe false fun p => keyR Fn p.2)).map (·.1)) (byKey (keyR Fn) ds) := by
        have e2 : byKey (keyR Fn) ds = ((xs.zip ds).mergeSort (dataLe false fun p => keyR Fn p.2)).map (·.2) := by
          have e3 := List.map_mergeSort (r := dataLe false fun p : V × PyData => keyR Fn p.2) (s := dataLe false (keyR Fn)) (f := Prod.snd) (l := xs.zip ds) (fun a _ b _ => rfl)
          rw [List.map_snd_zip (by omega)] at e3
          exact e3.symm
        rw [e2]
        exact dens_pairs fun p hp => pairs_dens dn p ((List.mergeSort_perm _ _).mem_iff.mp hp)
      have ly : (((xs.zip ds).mergeSort (dataLe false fun p => keyR Fn p.2)).map (·.1)).length ≤ sizeLine := by
        rw [List.length_map, List.length_mergeSort, List.length_zip]; omega
      have trk : ∀ b u, H b = some u → b < s.heap.objs.size := fun b u e => (I.hok b u e).lt
      have notD : ∀ b u, H b = some u → b ≠ s.heap.objs.size + 1 := fun b u e => Nat.ne_of_lt (Nat.lt_succ_of_lt (trk b u e))
      have notF : ∀ b u, H b = some u → b ∉ frs X.stack := fun b u e z => by rw [I.stkFree b z] at e; cases e
      refine ⟨.ref (s.heap.objs.size + 1), upd H (s.heap.objs.size + 1) (.lst (((xs.zip ds).mergeSort (dataLe false fun p => keyR Fn p.2)).map (·.1))), I.call' (ch := []) (s' := { s1 with heap := h', toks := t }) st.os ⟨fun b o e _ hf _ => lift b o hf e, fun b o e _ _ _ => lifts b o e, fun b o e n _ => ?_, fun b o e _ => ?_, fun b zs e => ?_, fun b o u e => ?_, fun b ps e => ⟨#[], ?_⟩⟩ (fun b u e => ?_) st.bare (fun b z => by cases z), rfl, hQ _ _ hfresh dy⟩
      · rw [upd_ne (Nat.ne_of_lt (Nat.lt_succ_of_lt (Heap.lt_size e)))]; exact n
      · obtain ⟨sl, q⟩ := lifts b o e; exact ⟨_, q⟩
      · rw [upd_ne (notD b _ e)]; exact e
      · rw [upd_ne (notD b _ e)]; exact e
      · rw [upd_ne (notD b _ e)]; simpa using e
      · by_cases hb2 : b = s.heap.objs.size + 1
        · subst hb2
          rw [upd_same] at e
          cases e
          exact ⟨ly, out, c, vy, hD⟩
        · rw [upd_ne hb2] at e
          refine (I.hok b u e).stay (fun c v hc q => lift c v ?_ q) (fun c hc => ?_) fun c zs hc => ?_
          · rcases hc with rfl | hc
            · exact notF _ _ e
            · exact notF _ _ hc
          · rw [upd_ne (notD c _ hc)]; exact hc
          · rw [upd_ne (notD c _ hc)]; exact hc
  · rw [if_neg hz] at hs
    cases hs
end
/-! ### as an expression -/
noncomputable def dSortK (Fn : FnT) (fs : Sls → Res (List PyData)) (ρ : Sls) : Res (List PyData) := fs ρ >>= fun ds => match ds with
  | [.list xs] => sortK Fn xs
  | _ => .bad
section
variable {X : Cx} {F0 H0 : Hp} {W : WX} {pos p p2 kp : Pos} {e : Expr} {fs : Sls → Res (List PyData)} {j k : Nat} {f : Addr} {fd : FuncData} {x y : Str} {Fn : FnT}
def rBy (X : Cx) (f : Addr) (Fn : FnT) : List V → List V → Hp → VK → Prop := fun vs zs H Q => ∃ (l : Addr) (xs : List V) (ds es : List PyData) (F : Hp), vs = [.ref l] ∧ zs = [.ref f] ∧ Ex F H ∧ SqL X.K H l xs ∧ Dens X.K F xs ds ∧ sortK Fn ds = .ok es ∧
  ∀ p ys, H p = none → Dens X.K F ys es → Q (.ref p) (upd H p (.lst ys))
theorem cr_by (G : FnD X.prog X.w X.K X.mg X.base j f fd [x] Fn) (hr : Room (j + 1) X.A) (hb : Binds X.K fd [x] []) : CallRK X (.builtin "sorted") [Str.ofString "key"] (rBy X f Fn) := by
  intro pins s σ H vs zs us ws Q I r rz h
  obtain ⟨l, xs, ds, es, F, rfl, rfl, ex, hl, dn, hs, q⟩ := h
  cases r with
  | cons r1 r2 =>
    cases r2
    cases rz with
    | cons z1 z2 =>
      cases z2
      cases r1
      cases z1
      exact sorted_by G hr hb I ex hl dn hs q
theorem dn_sortK (G : FnD X.prog X.w X.K X.mg X.base j f fd [x] Fn) (c : Cz X W k) (hj : j + 1 ≤ k) (hgf : Gl X y) (hmf : X.mg y = some (.ref f)) (hb : Binds X.K fd [x] []) (hg : Gl X "sorted") (hm : X.mg "sorted" = none) (ha : DA X F0 H0 W [e] fs) (hdb : (y == ("__debug__" : Str)) = false := by decide)
    (he : backTo pos (starEach [e] X.env) = (false, eval e X.env) :: backTo pos (starEach [] X.env) := by rfl) (hpl : (backTo pos (starEach [e] X.env)).any (·.1) = false := by rfl)
    (hall : (backToKw pos (keywordEach [⟨some "key", .Name y p2, kp⟩] X.env)).all (·.1.isSome) = true := by rfl) (hnone : (backToKw pos (keywordEach [⟨some "key", .Name y p2, kp⟩] X.env)).any (·.1.isNone) = false := by rfl)
    (hks : (backToKw pos (keywordEach [⟨some "key", .Name y p2, kp⟩] X.env)).filterMap (·.1) = [Str.ofString "key"] := by rfl) :
    DN X F0 H0 W (.Call (.Name "sorted" p) [e] [⟨some "key", .Name y p2, kp⟩] pos) (dSortK Fn fs) := by
  refine PE.imp (pe_callBK (cr_by G (c.room.mono hj) hb) hg hm PyProof.Rows.boot_sorted ha (pk_cons (pe_glob hgf hmf (v := .ref f) rfl hdb) pk_nil) (by decide) (by decide) he hpl hall hnone hks) fun σ H Q ⟨ρ, F, sr, q⟩ => ?_
  refine ⟨ρ, F, sr, ?_⟩
  unfold dSortK at q
  cases e : fs ρ with
  | exc x => simp only [e, bind_exc] at q; exact q
  | bad => simp only [e, bind_bad] at q
  | ok ds =>
    simp only [e, bind_ok] at q
    intro vs H1 F1 g1 r1
    cases r1 with
    | nil => exact q.elim
    | cons d1 d2 =>
      cases d2 with
      | cons _ _ => cases d1 <;> exact q.elim
      | nil =>
        cases d1 with
        | @lst l xs zs hs hd =>
          cases e2 : sortK Fn zs with
          | exc x => exact absurd e2 (by unfold sortK; split <;> simp)
          | bad => simp only [e2] at q
          | ok es =>
            simp only [e2] at q
            exact ⟨l, xs, zs, es, F1, rfl, rfl, g1.fh, g1.fh.sl hs, hd, e2, fun p ys hp hd2 => q p ys _ F1 (g1.trans (Gr.newO g1.fh hp)) (not_of_none g1.hh hp) upd_same (not_of_none g1.fh hp) hd2⟩
        | _ => exact q.elim
end
/-! ### min and max of a list of alike flat items -/
def flatAlike (xs : List PyData) : Bool := xs.all (fun x => flatD x && !(match x with | .none => true | _ => false)) && xs.all fun x => xs.all fun y => PySem.W.alike x y
def minWL : List PyData → Option PyData
  | [.list (x :: xs)] => if flatAlike (x :: xs) = true then some (PySem.W.minD x xs) else none
  | _ => none
def maxWL : List PyData → Option PyData
  | [.list (x :: xs)] => if flatAlike (x :: xs) = true then some (PySem.W.maxD x xs) else none
  | _ => none
theorem flatAlike_all {xs : List PyData} (h : flatAlike xs = true) : PySem.W.AlikeAll xs ∧ (∀ d ∈ xs, flatD d = true) ∧ PyData.depthAll xs ≤ 1 := by
  simp only [flatAlike, Bool.and_eq_true, List.all_eq_true] at h
  obtain ⟨h1, h2⟩ := h
  refine ⟨⟨h2, fun x hx z => ?_⟩, fun d hd => (h1 d hd).1, ?_⟩
  · subst z; have := (h1 _ hx).2; simp at this
  · have f : ∀ d ∈ xs, flatD d = true := fun d hd => (h1 d hd).1
    clear h1 h2
    induction xs with
    | nil => exact Nat.zero_le _
    | cons x xs ih =>
      have hx := f x List.mem_cons_self
      have ih := ih fun d hd => f d (List.mem_cons_of_mem _ hd)
      have e : x.depth ≤ 1 := by cases x <;> first | (simp [PyData.depth]; done) | cases hx
      simp only [PyData.depthAll]
      omega
theorem reads_flat {K : PySem.W.Frag} {F : Hp} {v : V} {u : Value} {h : Heap} {d e : PyData} {as : List Addr} (dv : Den K F v e) (fl : flatD e = true) (r : RelV v u) (q : Reads h u d as) : Den K F v d := by
  cases dv with
  | non => cases r; cases q; exact .non
  | bl b => cases r; cases q; exact .bl b
  | int i => obtain ⟨t, rfl⟩ := r; cases q; exact .int i
  | str x => obtain ⟨t, rfl⟩ := r; cases q; exact .str x
  | _ => cases fl
theorem noDics_flat : ∀ {xs : List PyData}, (∀ d ∈ xs, flatD d = true) → noDics xs = true
  | [], _ => rfl
  | x :: xs, h => by
    have := h x List.mem_cons_self
    rw [noDics, noDics_flat fun d hd => h d (List.mem_cons_of_mem _ hd)]
    cases x <;> first | rfl | cases this
section
variable {X : Cx}
theorem call_minW (hc : X.calm = true) (hu : X.A.units + 64 < cLine) : CallR X (.builtin "min") (rL X.K minWL) := by
  intro pins s σ H xs us Q I r h
  obtain ⟨as, F, ex, da, q⟩ := h
  cases da with
  | nil => exact q.elim
  | cons d1 d2 =>
    cases d2 with
    | cons _ _ =>
      cases d1 with
      | @lst l ys ds hl hd => cases ds <;> exact q.elim
      | _ => exact q.elim
    | nil =>
      cases d1 with
      | @lst l ys ds hl hd =>
        cases ds with
        | nil => exact q.elim
        | cons x zs =>
          have q' : Rop X.K (if flatAlike (x :: zs) = true then some (PySem.W.minD x zs) else none) H F Q := q
          by_cases hz : flatAlike (x :: zs) = true
          · rw [if_pos hz] at q'
            obtain ⟨h1, h2, h3⟩ := flatAlike_all hz
            obtain ⟨its, rv, p, _⟩ := I.list (ex.sl hl)
            obtain ⟨bs, rr⟩ := Dp.readsAll I _ _ _ ((hd.mono ex).dp (noDics_flat h2)) rv
            rw [Vals.ref1 r]
            refine PySem.W.min_list_data (I.ok.hd hc) p.isList rr h1 (by omega) fun i v h' tk cs hv hr hk => ?_
            obtain ⟨w, hw, rw'⟩ : ∃ w, ys[i]? = some w ∧ RelV w v := by
              have hv' : its[i]? = some v := by simpa using hv
              have hi : i < ys.length := by rw [rv.length]; exact (List.getElem?_eq_some_iff.mp hv').1
              obtain ⟨u, hu2, ru⟩ := rv.get (List.getElem?_eq_getElem hi)
              rw [hv'] at hu2
              cases hu2
              exact ⟨_, List.getElem?_eq_getElem hi, ru⟩
            obtain ⟨e, he, de⟩ := hd.getV hw
            exact ⟨w, H, I.kept hk, rw', q'.val ex (reads_flat de (h2 e (List.mem_of_getElem? he)) rw' hr)⟩
          · rw [if_neg hz] at q'
            exact q'.elim
      | _ => exact q.elim
theorem call_maxW (hc : X.calm = true) (hu : X.A.units + 64 < cLine) : CallR X (.builtin "max") (rL X.K maxWL) := by
  intro pins s σ H xs us Q I r h
  obtain ⟨as, F, ex, da, q⟩ := h
  cases da with
  | nil => exact q.elim
  | cons d1 d2 =>
    cases d2 with
    | cons _ _ =>
      cases d1 with
      | @lst l ys ds hl hd => cases ds <;> exact q.elim
      | _ => exact q.elim
    | nil =>
      cases d1 with
      | @lst l ys ds hl hd =>
        cases ds with
        | nil => exact q.elim
        | cons x zs =>
          have q' : Rop X.K (if flatAlike (x :: zs) = true then some (PySem.W.maxD x zs) else none) H F Q := q
          by_cases hz : flatAlike (x :: zs) = true
          · rw [if_pos hz] at q'
            obtain ⟨h1, h2, h3⟩ := flatAlike_all hz
            obtain ⟨its, rv, p, _⟩ := I.list (ex.sl hl)
            obtain ⟨bs, rr⟩ := Dp.readsAll I _ _ _ ((hd.mono ex).dp (noDics_flat h2)) rv
            rw [Vals.ref1 r]
            refine PySem.W.max_list_data (I.ok.hd hc) p.isList rr h1 (by omega) fun i v h' tk cs hv hr hk => ?_
            obtain ⟨w, hw, rw'⟩ : ∃ w, ys[i]? = some w ∧ RelV w v := by
              have hv' : its[i]? = some v := by simpa using hv
              have hi : i < ys.length := by rw [rv.length]; exact (List.getElem?_eq_some_iff.mp hv').1
              obtain ⟨u, hu2, ru⟩ := rv.get (List.getElem?_eq_getElem hi)
              rw [hv'] at hu2
              cases hu2
              exact ⟨_, List.getElem?_eq_getElem hi, ru⟩
            obtain ⟨e, he, de⟩ := hd.getV hw
            exact ⟨w, H, I.kept hk, rw', q'.val ex (reads_flat de (h2 e (List.mem_of_getElem? he)) rw' hr)⟩
          · rw [if_neg hz] at q'
            exact q'.elim
      | _ => exact q.elim
end
end DL

/-! DL12: sorted(list, key=a def), items tuples, keys that need not be alike; a def that returns a new list; repr. -/
namespace DL
open PySem PySem.Spec PyProof.Rows L2
open PySem.W (keyH_end KeepsBut copyHeap copyHeap_at copyHeap_old sortingHeap sortingHeap_old sorted_of_sort EachIs SortsAt dataLe hideAll hideAll_get hideAll_none of_hideAll)

/-! ### what a value reads as is one thing -/
section
variable {h : Heap} {fs : List Addr}
mutual
theorem KR.one : ∀ {v : Value} {d d' : PyData}, KR h fs v d → KR h fs v d' → d = d'
  | _, _, _, .non, q => by cases q; rfl
  | _, _, _, .bl b, q => by cases q; rfl
  | _, _, _, .int i t, q => by cases q; rfl
  | _, _, _, .str x t, q => by cases q; rfl
  | _, _, _, .tup e c d n r, q => by
    cases q with
    | tup e' c' d' n' r' =>
      rw [e] at e'
      cases e'
      rw [d] at d'
      cases d'
      rw [KRs.one r r']
theorem KRs.one : ∀ {v : List Value} {d d' : List PyData}, KRs h fs v d → KRs h fs v d' → d = d'
  | _, _, _, .nil, q => by cases q; rfl
  | _, _, _, .cons a b, q => by
    cases q with
    | cons a' b' => rw [KR.one a a', KRs.one b b']
end
open Classical in
noncomputable def krKind (h : Heap) (fs : List Addr) (ds : List PyData) : PyProof.Rows.KeyKind where
  toKeyOrd := PyProof.Rows.listOrd PyProof.Rows.itemOrd
  keyOf v := if q : ∃ d, d ∈ ds ∧ KR h fs v d then some (PySem.W.keyToks q.choose) else none
  dflt := ([] : List (Int ⊕ List Nat))
open Classical in
theorem krKind_some {ds : List PyData} {v : Value} {d : PyData} (hd : d ∈ ds) (r : KR h fs v d) : (krKind h fs ds).keyOf v = some (PySem.W.keyToks d) := by
  have q : ∃ d, d ∈ ds ∧ KR h fs v d := ⟨d, hd, r⟩
  show (if q : ∃ d, d ∈ ds ∧ KR h fs v d then some (PySem.W.keyToks q.choose) else none) = _
  rw [dif_pos q, KR.one q.choose_spec.2 r]
open Classical in
theorem krKind_inv {ds : List PyData} {v : Value} {k : List (Int ⊕ List Nat)} (e : (krKind h fs ds).keyOf v = some k) : ∃ d, d ∈ ds ∧ KR h fs v d ∧ k = PySem.W.keyToks d := by
  have e1 : (if q : ∃ d, d ∈ ds ∧ KR h fs v d then some (PySem.W.keyToks q.choose) else none) = some k := e
  by_cases q : ∃ d, d ∈ ds ∧ KR h fs v d
  · rw [dif_pos q] at e1
    exact ⟨_, q.choose_spec.1, q.choose_spec.2, (Option.some.inj e1).symm⟩
  · rw [dif_neg q] at e1
    cases e1
end
theorem lex_run {P : Program} {w : World} {A : Around} {s : Shared} {fin k : Bool} {Q : Bool → Shared → Prop} : ∀ {ps : List (Value × Value)} {i : Nat}, LtRun A s fin ps k → Q k s → PySem.W.KatLex P w A false fin Q ps i s
  | _, i, .nil, q => PySem.W.kat_nil q
  | _, i, .same e r, q => PySem.W.kat_cons (e _ _ _ _ (PySem.W.kat_yes (lex_run r q)))
  | _, i, .diff e r, q => PySem.W.kat_cons (e _ _ _ _ (PySem.W.kat_no (by
      rw [show (false && i == 0) = false from rfl, PyProof.Rows.oneLt'_eq]
      simp only [Bool.false_eq_true, if_false]
      exact wpAny_bind (r _ _ _ _ (wpAny_truthy_bool q)))))
def tup2 : PyData → Bool
  | .tuple (.tuple _ :: _) => true
  | _ => false
def keysOk2 (ks : List PyData) : Bool := ks.all (fun k => tupOnly k && (tup2 k && decide (k.depth ≤ 100))) && ks.all fun k => ks.all fun k' => lessD k k' == some (PySem.W.dataLt k k')
theorem sorts_kr {P : Program} {w : World} {A : Around} {s : Shared} {fs : List Addr} {vs : List Value} {ds : List PyData} (e : EachIs (fun v d => KR s.heap fs v d) vs ds) (h1 : ∀ d ∈ ds, tup2 d = true) (h2 : ∀ d ∈ ds, ∀ d' ∈ ds, lessD d d' = some (PySem.W.dataLt d d'))
    (hu : ∀ d ∈ ds, A.units + d.depth < cLine) : SortsAt P w A s (krKind s.heap fs ds) vs := by
  have shape : ∀ d ∈ ds, ∃ x r, d = .tuple (.tuple x :: r) := fun d hd => by
    have := h1 d hd
    cases d with
    | tuple xs =>
      cases xs with
      | nil => cases this
      | cons x r => cases x <;> first | exact ⟨_, _, rfl⟩ | cases this
    | _ => cases this
  have er : EachIs (fun v d => ∃ as, Reads s.heap v d as) vs ds := e.mono fun v d q => ⟨[], q.reads⟩
  refine ⟨fun v hv => ?_, PyProof.Rows.tuples' false, ?_, fun hlen E Q hq => ?_⟩
  · obtain ⟨d, hd, r⟩ := e.left v hv
    exact ⟨_, krKind_some hd r⟩
  · intro E x y a b Q ha hb hq
    obtain ⟨d, hd, ra, rfl⟩ := krKind_inv ha
    obtain ⟨d', hd', rb, rfl⟩ := krKind_inv hb
    have hl := h2 d hd d' hd'
    have hroom := hu d hd
    obtain ⟨x1, r1, rfl⟩ := shape d hd
    obtain ⟨x2, r2, rfl⟩ := shape d' hd'
    have hq' : Q (PySem.W.dataLt (.tuple (.tuple x1 :: r1)) (.tuple (.tuple x2 :: r2))) s := hq
    cases ra with
    | @tup a1 o1 v1 n1 _ g1 c1 d1 _ q1 =>
      cases rb with
      | @tup a2 o2 v2 n2 _ g2 c2 d2 _ q2 =>
        have l1 : v1.size = (PyData.tuple x1 :: r1).length := by simpa using SeqAt.ReadsAll.length _ _ _ q1.reads
        have l2 : v2.size = (PyData.tuple x2 :: r2).length := by simpa using SeqAt.ReadsAll.length _ _ _ q2.reads
        simp only [lessD] at hl
        refine PySem.W.kat_lt g1 d1 g2 d2 (lex_run ?_ hq')
        rw [l1, l2]
        exact less_run _ _ _ _ _ _ _ _ _ _ q1.reads q2.reads hl (by rw [PyData.depth] at hroom; omega)
  · obtain ⟨gs, t1, t2, t3⟩ := PySem.W.each_katTups er fun d hd => by
      obtain ⟨x, r, e⟩ := shape d hd
      exact ⟨_, r, e⟩
    refine PySem.W.kat_kind (T := .type "tuple") t1 (by omega) (fun g hg => ?_) rfl hq
    obtain ⟨x, r, as, m1, m2⟩ := t3 g hg
    obtain ⟨x', r', e'⟩ := shape _ m1
    cases e'
    exact PySem.W.looks_reads m2
/-! ### items that are tuples, kept as they are -/
structure Icy (P : Program) (w : World) (Hz : Hp) (outer : List PySem.Env) (base h : Heap) : Prop where
  shape : ∀ a u, Hz a = some u → ∃ o xs, u = .frz o (.tup xs)
  out : ∀ a u, Hz a = some u → a ∉ frs outer
  nb : ∀ b o, base.get? b = some o → Hz b = none
  hok : HOk P w Hz h
section
variable {P : Program} {w : World} {K : PySem.W.Frag} {mg : Str → Option Value} {base : Heap} {j : Nat} {f : Addr} {fd : FuncData} {x : Str} {Fn : List PyData → Res PyData} {A : Around} {outer : List PySem.Env} {s s' : Shared} {Hz : Hp} {ex : List Addr}
theorem Icy.stay (y : Icy P w Hz outer base s.heap) (st : Stay outer ex s s') (hx : ∀ b ∈ ex, Hz b = none) : Icy P w Hz outer base s'.heap :=
  ⟨y.shape, y.out, y.nb, fun a u e => (y.hok a u e).stay (fun b v hb q => by
    rcases hb with rfl | hb
    · exact st.keep b v (y.out b u e) (fun z => by rw [hx b z] at e; cases e) q
    · obtain ⟨o, xs, z⟩ := y.shape b _ hb
      cases z) (fun _ q => q) fun _ _ q => q⟩
/-- what an outer state tells of a later one -/
theorem env_icy (E0 : Env0 P w K mg base A outer s Hz) (y : Icy P w Hz outer base s.heap) (st : Stay outer ex s s') (hx : ∀ b ∈ ex, base.get? b = none ∧ b ∉ frs outer ∧ Hz b = none) (hz : ∃ z o, base.objs.size ≤ z ∧ z ∉ ex ∧ s.heap.get? z = some o) : Env0 P w K mg base A outer s' Hz := by
  have e0 : Env0 P w K mg base A outer s H00 := ⟨E0.frames, E0.mod, fun b o h => ⟨(E0.bs b o h).1, rfl⟩, E0.bsz, E0.funs, fun _ _ => rfl, fun _ _ e => (by cases e), E0.bare⟩
  have e1 := Env0.stay e0 st (fun b z => ⟨(hx b z).1, (hx b z).2.1⟩) hz
  exact ⟨e1.frames, e1.mod, fun b o h => ⟨(e1.bs b o h).1, y.nb b o h⟩, e1.bsz, e1.funs, fun b hb => by
    cases q : Hz b with
    | none => rfl
    | some u => exact absurd hb (y.out b u q), (y.stay st fun b z => (hx b z).2.2).hok, e1.bare⟩
theorem key_icy (G : FnD P w K mg base j f fd [x] Fn) (hr : Room j A) (E0 : Env0 P w K mg base A outer s Hz) (y : Icy P w Hz outer base s.heap) (kin : K.In base) (hb : Binds K fd [x] []) {d k : PyData} {v : V} {u : Value} (dv : Den K Hz v d) (hk : Fn [d] = .ok k) (tk : tupOnly k = true) (r : RelV v u) (fs : List Addr)
    (hfs : ∀ b ∈ fs, (∃ o, s.heap.get? b = some o) ∧ base.get? b = none ∧ Hz b = none) (hz : ∃ z o, base.objs.size ≤ z ∧ s.heap.get? z = some o) : wpAny (model P w) A (call (.ref f) [u]) (fun y s' => Stay outer [] s s' ∧ KR s'.heap fs y k) (fun _ _ => False) s := by
  have kin' : K.In s.heap := fun a o e => (E0.bs a o (kin a o e)).1
  have bt := hb s [u] kin' rfl
  rw [List.append_nil] at bt
  refine wpAny_call (codeAny_mono (G.run A outer s Hz ⟨[u], []⟩ [u] [v] (fun v' H' => ∃ F', Ex F' H' ∧ Den K F' v' k) (fun _ _ _ => False) hr E0 bt (.cons r .nil) ?_) fun r s' hq => ?_)
  · refine ⟨[d], Hz, rfl, .refl _, .cons dv .nil, ?_⟩
    rw [hk]
    exact fun v' H' F' g q => ⟨F', g.fh, q⟩
  · cases r with
    | error e => exact cx_false hq
    | ok fl =>
      cases fl with
      | ret u' =>
        obtain ⟨v', H', os, bare, un, hok, r', F', ex, dn⟩ := hq
        have kp : ∀ b o, b ∉ frs outer → s.heap.get? b = some o → s'.heap.get? b = some o := fun b o h1 e => by
          cases q : Hz b with
          | none => exact un.keep b o e q h1 (by simp)
          | some u =>
            obtain ⟨o', xs, rfl⟩ := y.shape b u q
            have a1 := (y.hok b _ q).1
            have a2 := (hok b _ (un.frzs b _ _ q)).1
            rw [e] at a1
            cases a1
            exact a2
        have st : Stay outer [] s s' := ⟨os, bare, fun b o h1 _ e => kp b o h1 e, fun b o _ e => by
          by_cases z : b ∈ frs outer
          · exact un.slot b o e (E0.frf b z) z (by simp)
          · exact ⟨o.slots, kp b o z e⟩⟩
        have E1 := env_icy E0 y st (fun b z => by cases z) (by obtain ⟨z, o, h1, h2⟩ := hz; exact ⟨z, o, h1, by simp, h2⟩)
        refine ⟨st, kr_of hok (fun a o e => (E1.bs a o (kin a o e)).1) ex (fun b z => ?_) (fun b z => ?_) dn tk r'⟩
        · obtain ⟨⟨o, e⟩, _, n⟩ := hfs b z
          exact un.free b o e n (by simp)
        · cases q : K.lookup b with
          | none => rfl
          | some o => have := kin b o q; rw [(hfs b z).2.1] at this; cases this
      | next => exact False.elim hq
      | brk => exact False.elim hq
      | cont => exact False.elim hq
/-- the keys, one by one, then the sort -/
theorem sort_icy (G : FnD P w K mg base j f fd [x] Fn) (hr : Room j A) (E0 : Env0 P w K mg base A outer s Hz) (y : Icy P w Hz outer base s.heap) (kin : K.In base) (hb : Binds K fd [x] []) {key : PyData → PyData} {xs : List V} {vs : List Value} {ds : List PyData} {a kS : Addr} {e1 : Nat}
    (dx : Dens K Hz xs ds) (rx : Vals xs vs) (hk : ∀ d ∈ ds, Fn [d] = .ok (key d)) (tk : ∀ d ∈ ds, tupOnly (key d) = true) (k1 : ∀ d ∈ ds.map key, tup2 d = true) (k2 : ∀ d ∈ ds.map key, ∀ d' ∈ ds.map key, lessD d d' = some (PySem.W.dataLt d d')) (hu : ∀ d ∈ ds, A.units + (key d).depth < cLine) (hZ : vs.length ≤ sizeLine)
    (nk : s.heap.get? kS = some (seqObj "list" #[] 0)) (na : s.heap.get? a = some (seqObj "list" #[] e1)) (hka : kS ≠ a) (bk : base.objs.size ≤ kS) (ba : base.objs.size ≤ a) (fk : kS ∉ frs outer) (fa : a ∉ frs outer) (zk : Hz kS = none) (za : Hz a = none) {E : Value → Shared → Prop} {Q : PySem.Fin → Shared → Prop}
    (fin : ∀ (s1 : Shared) h' t c (kz : List Value), Stay outer [kS] s s1 → KeepsBut a (hideAll s1.heap [kS]) h' → EachIs (fun u k => KR s1.heap (kS :: a :: frs outer) u k) kz (ds.map key) →
      h'.get? a = some (seqObj "list" (PySem.W.sortVals (krKind s1.heap (kS :: a :: frs outer) (ds.map key)) false kz vs).toArray c) → Q (.done (.ret .none)) { s1 with heap := h', toks := t }) :
    wpAny (model P w) A (PyProof.Rows.ksk_rest a (.ref f) false vs.toArray e1 (.ref kS)) Q E s := by
  have lx := rx.length
  have ld := dx.length
  have none_of : ∀ b, base.objs.size ≤ b → base.get? b = none := fun b h => Heap.get?_none_of_le h
  have hxs : ∀ b ∈ [kS], base.get? b = none ∧ b ∉ frs outer ∧ Hz b = none := fun b z => by rw [List.mem_singleton.mp z]; exact ⟨none_of _ bk, fk, zk⟩
  unfold PyProof.Rows.ksk_rest
  refine wpAny_bind (wpAny_rule ?_)
  simp only [List.forIn_toArray]
  refine wpAny_bind (PyProof.Rows.ksk_fold (fun i s' => Stay outer [kS] s s' ∧ ∃ kA e, s'.heap.get? kS = some (seqObj "list" kA e) ∧ EachIs (fun u k => KR s'.heap (kS :: a :: frs outer) u k) kA.toList ((ds.map key).take i)) vs 0 s ⟨.refl E0.bare, #[], 0, nk, by rw [List.take_zero]; exact .nil⟩ ?one ?last)
  case one =>
    rintro i u s' hu' ⟨st, kA, e, nk', eachK⟩
    rw [Nat.zero_add] at eachK ⊢
    have hi : i < vs.length := (List.getElem?_eq_some_iff.mp hu').1
    have hid : i < ds.length := by omega
    have hd : ds[i]? = some ds[i] := List.getElem?_eq_getElem hid
    obtain ⟨v, hv, dv⟩ := dx.get hd
    obtain ⟨u2, hu2, ru⟩ := rx.get hv
    rw [hu'] at hu2
    cases hu2
    have E1 := env_icy E0 y st hxs ⟨a, _, ba, by simp [Ne.symm hka], na⟩
    have y1 := y.stay st fun b z => (hxs b z).2.2
    have na' := st.keep a _ fa (by simp [Ne.symm hka]) na
    refine wpAny_bind (wpAny_attempt (wpAny_mono (key_icy G hr E1 y1 kin hb dv (hk _ (List.getElem_mem hid)) (tk _ (List.getElem_mem hid)) ru (kS :: a :: frs outer) (fun b z => ?_) ⟨a, _, ba, na'⟩) (fun y s2 hy => ?_) fun _ _ z => z.elim))
    · rcases List.mem_cons.mp z with z | z
      · rw [z]; exact ⟨⟨_, nk'⟩, none_of _ bk, zk⟩
      · rcases List.mem_cons.mp z with z | z
        · rw [z]; exact ⟨⟨_, na'⟩, none_of _ ba, za⟩
        · obtain ⟨h1, o, h2, _⟩ := E1.funs.mem z
          exact ⟨⟨o, h2⟩, h1, E1.frf b z⟩
    · obtain ⟨st2, ky⟩ := hy
      have nk2 := st2.keep kS _ fk (by simp) nk'
      have lk := eachK.length
      rw [Array.length_toList, List.length_take, List.length_map] at lk
      have sz : kA.size ≤ sizeLine := by omega
      have upd1 := Heap.SameBut.update s2.heap kS (Obj.mapSeq fun (zs : Array Value) => zs.push y)
      obtain ⟨c2, hc2⟩ : ∃ c2, (s2.heap.update kS (Obj.mapSeq fun (zs : Array Value) => zs.push y)).get? kS = some (seqObj "list" (kA.push y) c2) := ⟨_, PyProof.Rows.get?_update_seq nk2 fun (zs : Array Value) => zs.push y⟩
      refine wpAny_bind (PyProof.Rows.listUpdate_at nk2 rfl ?_ sz (by show (kA.push y).size ≤ _; rw [Array.size_push]; omega))
      refine wpAny_pure ⟨rfl, ?_, kA.push y, c2, hc2, ?_⟩
      · refine st.trans (Stay.trans (st2.more fun b z => by cases z) ⟨rfl, st2.bare, fun b o _ hb2 e => ?_, fun b o hb2 e => ⟨o.slots, ?_⟩⟩)
        · exact (upd1.2 b (by simpa using hb2)).trans e
        · exact (upd1.2 b (by simpa using hb2)).trans e
      · have ek : (ds.map key).take (i + 1) = (ds.map key).take i ++ [key ds[i]] := by
          rw [List.take_add_one, List.getElem?_map, hd]; rfl
        have ea : (kA.push y).toList = kA.toList ++ [y] := by simp
        rw [ek, ea]
        have mv : ∀ {u : Value} {k : PyData}, KR s2.heap (kS :: a :: frs outer) u k → KR (s2.heap.update kS (Obj.mapSeq fun (zs : Array Value) => zs.push y)) (kS :: a :: frs outer) u k := fun {u k} q => q.mono fun b o hb2 e => (upd1.2 b (fun z => hb2 (by rw [z]; exact List.mem_cons_self))).trans e
        refine each_push (mv ky) (eachK.mono fun u k q => mv (q.mono fun b o hb2 e => st2.keep b o (fun z => hb2 (List.mem_cons_of_mem _ (List.mem_cons_of_mem _ z))) (by simp) e))
  case last =>
    rintro s1 ⟨st, kA, e, nk1, eachK⟩
    rw [Nat.zero_add, List.take_of_length_le (by rw [List.length_map]; omega)] at eachK
    have lk := eachK.length
    rw [Array.length_toList, List.length_map] at lk
    have na1 := st.keep a _ fa (by simp [Ne.symm hka]) na
    refine wpAny_bind (PyProof.Rows.listItems_at nk1 rfl ?_)
    refine keyH_end (κ := krKind s1.heap (kS :: a :: frs outer) (ds.map key)) (h₁ := hideAll s1.heap [kS]) (fun b o _ e => of_hideAll _ e) (hideAll_none _ (by simp)) nk1 na1 hka (sorts_kr (s := s1) eachK k1 k2 (fun d hd => ?_)) (by omega) hZ fun h3 t3 c k3 n3 => fin s1 h3 t3 c _ st k3 eachK n3
    obtain ⟨d0, h0, rfl⟩ := List.mem_map.mp hd
    exact hu d0 h0
end
noncomputable def sortK2 (Fn : FnT) (ds : List PyData) : Res (List PyData) := if (ds.all tupOnly && ds.all (isOkR Fn) && keysOk2 (ds.map (keyR Fn)) && decide (ds.length ≤ 16777216)) = true then .ok (byKey (keyR Fn) ds) else .bad
noncomputable def icyH (F : Hp) (h : Heap) : Hp := fun a => match F a with
  | some (.tup xs) => (h.get? a).map fun o => .frz o (.tup xs)
  | some (.frz o (.tup xs)) => some (.frz o (.tup xs))
  | _ => none
theorem icy_inv {F : Hp} {h : Heap} {a : Addr} {u : HO} (e : icyH F h a = some u) : ∃ o xs, u = .frz o (.tup xs) ∧ ((F a = some (.tup xs) ∧ h.get? a = some o) ∨ F a = some (.frz o (.tup xs))) := by
  unfold icyH at e
  cases q : F a with
  | none => rw [q] at e; cases e
  | some w =>
    rw [q] at e
    cases w with
    | tup xs =>
      cases r : h.get? a with
      | none => simp only [r, Option.map_none] at e; cases e
      | some o =>
        simp only [r, Option.map_some, Option.some.injEq] at e
        exact ⟨o, xs, e.symm, .inl ⟨rfl, rfl⟩⟩
    | frz o u' =>
      cases u' with
      | tup xs =>
        simp only [Option.some.injEq] at e
        exact ⟨o, xs, e.symm, .inr rfl⟩
      | _ => cases e
    | _ => cases e
section
variable {X : Cx} {pins : List (Addr × Obj)} {σ : L2.St} {H F : Hp} {s : Shared}
theorem icy_of (I : Inv X pins σ H s) (ex : Ex F H) : Icy X.prog X.w (icyH F s.heap) X.stack X.base s.heap := by
  have nn : ∀ a u, icyH F s.heap a = some u → ∃ w, H a = some w := fun a u e => by
    obtain ⟨o, xs, _, (⟨h1, _⟩ | h1)⟩ := icy_inv e
    · exact ⟨_, ex _ _ h1⟩
    · exact ⟨_, ex _ _ h1⟩
  refine ⟨fun a u e => ?_, fun a u e z => ?_, fun b o e => ?_, fun a u e => ?_⟩
  · obtain ⟨o, xs, h, _⟩ := icy_inv e; exact ⟨o, xs, h⟩
  · obtain ⟨w, hw⟩ := nn a u e
    rw [I.stkFree a z] at hw; cases hw
  · cases q : icyH F s.heap b with
    | none => rfl
    | some u =>
      obtain ⟨w, hw⟩ := nn b u q
      rw [(I.env0.bs b o e).2] at hw; cases hw
  · obtain ⟨o, xs, rfl, (⟨h1, h2⟩ | h1)⟩ := icy_inv e
    · exact ⟨h2, I.hok a _ (ex _ _ h1)⟩
    · exact I.hok a _ (ex _ _ h1)
theorem icy_rd (I : Inv X pins σ H s) (ex : Ex F H) {a : Addr} {xs : List V} (h : Rd F a (.tup xs)) : Rd (icyH F s.heap) a (.tup xs) := by
  rcases h with h | ⟨o, h⟩
  · obtain ⟨_, its, _, o, e, _⟩ := I.hok a _ (ex _ _ h)
    exact .inr ⟨o, by unfold icyH; rw [h, e]; rfl⟩
  · exact .inr ⟨o, by unfold icyH; rw [h]⟩
theorem tupOnlys_all : ∀ {ds : List PyData}, (∀ d ∈ ds, tupOnly d = true) → tupOnlys ds = true
  | [], _ => rfl
  | d :: ds, h => by rw [tupOnlys, h d List.mem_cons_self, tupOnlys_all fun x hx => h x (List.mem_cons_of_mem _ hx)]; rfl
mutual
theorem den_icy (I : Inv X pins σ H s) (ex : Ex F H) : ∀ {v : V} {d : PyData}, Den X.K F v d → tupOnly d = true → Den X.K (icyH F s.heap) v d
  | _, _, .non, _ => .non
  | _, _, .bl b, _ => .bl b
  | _, _, .int i, _ => .int i
  | _, _, .str x, _ => .str x
  | _, _, .lst _ _, t => by simp [tupOnly] at t
  | _, _, .dic _ _, t => by simp [tupOnly] at t
  | _, _, .tup h q, t => by
    have t' := t
    simp only [tupOnly] at t'
    rcases h with h | h
    · exact .tup (.inl (icy_rd I ex h)) (dens_icy I ex q t')
    · exact .tup (.inr h) (dens_icy I ex q t')
theorem dens_icy (I : Inv X pins σ H s) (ex : Ex F H) : ∀ {v : List V} {d : List PyData}, Dens X.K F v d → tupOnlys d = true → Dens X.K (icyH F s.heap) v d
  | _, _, .nil, _ => .nil
  | _, _, .cons a b, t => by
    simp only [tupOnlys, Bool.and_eq_true] at t
    exact .cons (den_icy I ex a t.1) (dens_icy I ex b t.2)
end
theorem sorted_icy {j : Nat} {f : Addr} {fd : FuncData} {x : Str} {Fn : FnT} (G : FnD X.prog X.w X.K X.mg X.base j f fd [x] Fn) (hr : Room (j + 1) X.A) (hb : Binds X.K fd [x] []) (I : Inv X pins σ H s) (ex : Ex F H) {l : Addr} {xs : List V} {ds es : List PyData}
    (hl : SqL X.K H l xs) (dn : Dens X.K F xs ds) (hs : sortK2 Fn ds = .ok es) {Q : VK} (hQ : ∀ p ys, H p = none → Dens X.K F ys es → Q (.ref p) (upd H p (.lst ys))) :
    wpAny (model X.prog X.w) X.A (call (.builtin "sorted") [.ref l] [(Str.ofString "key", .ref f)]) (EP X pins σ Q) X.xe s := by
  unfold sortK2 at hs
  by_cases hz : (ds.all tupOnly && ds.all (isOkR Fn) && keysOk2 (ds.map (keyR Fn)) && decide (ds.length ≤ 16777216)) = true
  · rw [if_pos hz] at hs
    simp only [Bool.and_eq_true, keysOk2, List.all_eq_true, decide_eq_true_eq, List.mem_map, forall_exists_index, and_imp, forall_apply_eq_imp_iff₂] at hz
    obtain ⟨⟨⟨z1, z2⟩, z3, z4⟩, z5⟩ := hz
    cases hs
    obtain ⟨vs, rx, pl, hlen⟩ := I.list hl
    have lx := rx.length
    have ld := dn.length
    have hlv : vs.length ≤ sizeLine := by omega
    have icy := icy_of I ex
    have dH : Dens X.K (icyH F s.heap) xs ds := dens_icy I ex dn (tupOnlys_all z1)
    have hkk : ∀ d ∈ ds, Fn [d] = .ok (keyR Fn d) := fun d hd => by
      have := z2 d hd
      unfold isOkR at this
      unfold keyR
      cases e : Fn [d] with
      | ok k => rfl
      | exc x => rw [e] at this; cases this
      | bad => rw [e] at this; cases this
    refine sorted_of_sort pl.isList hlv (PyProof.Rows.ksk_s1 _ _) (fun _ => PyProof.Rows.ksk_l1 _ _) fun E' => ?_
    rw [PyProof.Rows.ksk_t1]
    have atD := copyHeap_at s.heap vs
    have ltD := Heap.lt_size atD
    obtain ⟨e1, emp⟩ : ∃ e1, ((copyHeap s.heap vs).update (s.heap.objs.size + 1) (Obj.mapSeq fun _ => (#[] : Array Value))).get? (s.heap.objs.size + 1) = some (seqObj "list" #[] e1) := ⟨_, PyProof.Rows.get?_update_seq atD fun _ => #[]⟩
    have szK : (((copyHeap s.heap vs).update (s.heap.objs.size + 1) (Obj.mapSeq fun _ => (#[] : Array Value))).push (seqObj "tuple" vs.toArray 0)).objs.size = (copyHeap s.heap vs).objs.size + 1 := by rw [PyProof.Rows.size_push', Heap.size_update]
    unfold PyProof.Rows.ksk_tree
    refine wpAny_bind (PyProof.Rows.listItems_at atD rfl (wpAny_bind (PyProof.Rows.listUpdate_at atD rfl (wpAny_bind (PyProof.Rows.seqEpoch_at emp rfl (wpAny_bind (wpAny_newTuple (wpAny_bind (wpAny_newList (wpAny_holding ?_) (Nat.zero_le _))) (by show vs.length ≤ _; exact hlv))))) (by rw [List.size_toArray]; exact hlv) (Nat.zero_le _))))
    have e00 : Env0 X.prog X.w X.K X.mg X.base X.A X.stack s (icyH F s.heap) := ⟨I.env0.frames, I.env0.mod, fun b o h => ⟨(I.env0.bs b o h).1, icy.nb b o h⟩, I.env0.bsz, I.env0.funs, fun b hb => (by cases q : icyH F s.heap b with | none => rfl | some u => exact absurd hb (icy.out b u q)), icy.hok, I.env0.bare⟩
    have old : ∀ b o, s.heap.get? b = some o → (sortingHeap (copyHeap s.heap vs) (s.heap.objs.size + 1) vs).get? b = some o := fun b o e => sortingHeap_old (Nat.ne_of_lt (Nat.lt_succ_of_lt (Heap.lt_size e))) (copyHeap_old e)
    have st0 : Stay X.stack [] s { s with heap := sortingHeap (copyHeap s.heap vs) (s.heap.objs.size + 1) vs } := ⟨rfl, I.bare, fun b o _ _ e => old b o e, fun b o _ e => ⟨o.slots, old b o e⟩⟩
    obtain ⟨m, ⟨ol, es, ep, hol, _⟩, _⟩ := id I.loc
    have hbase : X.base.objs.size ≤ s.heap.objs.size := Nat.le_trans I.ok.bsz I.sz
    have E1 := (env_icy e00 icy st0 (fun b z => by cases z) ⟨X.env.locals, ol, Nat.le_trans I.ok.bsz I.ok.above, by simp, hol⟩).in1.in1
    have y1 : Icy X.prog X.w (icyH F s.heap) X.stack X.base (sortingHeap (copyHeap s.heap vs) (s.heap.objs.size + 1) vs) := icy.stay st0 (fun b z => by cases z)
    have zn : ∀ b, s.heap.objs.size ≤ b → icyH F s.heap b = none := fun b hb2 => by
      cases q : icyH F s.heap b with
      | none => rfl
      | some u => exact absurd (icy.hok b u q).lt (Nat.not_lt.mpr hb2)
    have frl : ∀ b, s.heap.objs.size ≤ b → b ∉ frs X.stack := fun b hb2 z => by
      obtain ⟨_, o, h2, _⟩ := I.stack.mem z
      exact absurd (Heap.lt_size h2) (Nat.not_lt.mpr hb2)
    have gK : (sortingHeap (copyHeap s.heap vs) (s.heap.objs.size + 1) vs).get? ((copyHeap s.heap vs).objs.size + 1) = some (seqObj "list" #[] 0) := by
      rw [← szK]; exact Heap.get?_push_size _ rfl
    have gD : (sortingHeap (copyHeap s.heap vs) (s.heap.objs.size + 1) vs).get? (s.heap.objs.size + 1) = some (seqObj "list" #[] e1) := Heap.get?_push_of_some _ (Heap.get?_push_of_some _ emp)
    have hNk : s.heap.objs.size + 1 < (copyHeap s.heap vs).objs.size + 1 := Nat.lt_succ_of_lt ltD
    show wpAny _ _ (PyProof.Rows.ksk_rest _ _ _ _ _ (.ref _)) _ _ { s with heap := sortingHeap (copyHeap s.heap vs) (s.heap.objs.size + 1) vs }
    rw [szK]
    refine sort_icy (A := X.A.in1.in1) (s := { s with heap := sortingHeap (copyHeap s.heap vs) (s.heap.objs.size + 1) vs }) G ⟨hr.hd, by have := hr.dp; show X.A.depth + 3 * j + 5 < _; omega, by have := hr.un; show X.A.units + 1 + 1 + 16 * j + 200 < _; omega⟩ E1 y1 I.ok.mod.kin hb dH rx hkk (fun d hd => (z3 d hd).1) (fun k hk => ?_) (fun k hk k' hk' => ?_) (fun d hd => ?_) hlv gK gD (Nat.ne_of_gt hNk) (Nat.le_trans hbase (Nat.le_of_lt (Nat.lt_of_succ_lt hNk))) (Nat.le_succ_of_le hbase) (frl _ (Nat.le_of_lt (Nat.lt_of_succ_lt hNk))) (frl _ (Nat.le_succ _)) (zn _ (Nat.le_of_lt (Nat.lt_of_succ_lt hNk))) (zn _ (Nat.le_succ _)) fun s1 h' t c kz st kb ek hD => ⟨rfl, ?_⟩
    · obtain ⟨d, hd, rfl⟩ := List.mem_map.mp hk
      exact (z3 d hd).2.1
    · obtain ⟨d, hd, rfl⟩ := List.mem_map.mp hk
      obtain ⟨d', hd', rfl⟩ := List.mem_map.mp hk'
      simpa using z4 d hd d' hd'
    · have := hr.un
      have := (z3 d hd).2.2
      show X.A.units + 1 + 1 + _ < _
      omega
    · have lift : ∀ b o, b ∉ frs X.stack → s.heap.get? b = some o → h'.get? b = some o := fun b o hf e => by
        have hb2 : b < s.heap.objs.size := Heap.lt_size e
        have nK : b ≠ (copyHeap s.heap vs).objs.size + 1 := Nat.ne_of_lt (Nat.lt_trans hb2 (Nat.lt_of_succ_lt hNk))
        have q1 := st.keep b o hf (by simpa using nK) (old b o e)
        exact kb b o (Nat.ne_of_lt (Nat.lt_succ_of_lt hb2)) (hideAll_get _ q1 (by simpa using nK))
      have lifts : ∀ b o, s.heap.get? b = some o → ∃ sl, h'.get? b = some { o with slots := sl } := fun b o e => by
        have hb2 : b < s.heap.objs.size := Heap.lt_size e
        have nK : b ≠ (copyHeap s.heap vs).objs.size + 1 := Nat.ne_of_lt (Nat.lt_trans hb2 (Nat.lt_of_succ_lt hNk))
        obtain ⟨sl, q1⟩ := st.slot b o (by simpa using nK) (old b o e)
        exact ⟨sl, kb b _ (Nat.ne_of_lt (Nat.lt_succ_of_lt hb2)) (hideAll_get _ q1 (by simpa using nK))⟩
      have kz' : (xs.zip ds).map (fun p => keyR Fn p.2) = ds.map (keyR Fn) := by
        rw [show (fun p : V × PyData => keyR Fn p.2) = keyR Fn ∘ Prod.snd from rfl, ← List.map_map, List.map_snd_zip (by omega)]
      have ek2 : EachIs (fun u k => (krKind s1.heap _ (ds.map (keyR Fn))).keyOf u = some (PySem.W.keyToks k)) kz (ds.map (keyR Fn)) := (PySem.W.each_mem ek).mono fun u k q => krKind_some q.2 q.1
      have ek3 := PySem.W.each_of_map (fun p : V × PyData => keyR Fn p.2) (by rw [kz']; exact ek2)
      have eo := PySem.W.sortVals_each (κ := krKind s1.heap _ (ds.map (keyR Fn))) (rev := false) (bs := xs.zip ds) (fun p => PySem.W.keyToks (keyR Fn p.2)) (each_zip rx (by omega)) ek3
      generalize hout : PySem.W.sortVals (krKind s1.heap _ (ds.map (keyR Fn))) false kz vs = out at eo hD
      have eo : EachIs (fun (u : Value) (p : V × PyData) => RelV p.1 u) out ((xs.zip ds).mergeSort (dataLe false fun p => keyR Fn p.2)) := eo
      have hfresh : H (s.heap.objs.size + 1) = none := I.hok.fresh (Nat.le_succ _)
      have vy := vals_each eo
      have dy : Dens X.K F (((xs.zip ds).mergeSort (dataLe false fun p => keyR Fn p.2)).map (·.1)) (byKey (keyR Fn) ds) := by
        have e2 : byKey (keyR Fn) ds = ((xs.zip ds).mergeSort (dataLe false fun p => keyR Fn p.2)).map (·.2) := by
          have e3 := List.map_mergeSort (r := dataLe false fun p : V × PyData => keyR Fn p.2) (s := dataLe false (keyR Fn)) (f := Prod.snd) (l := xs.zip ds) (fun a _ b _ => rfl)
          rw [List.map_snd_zip (by omega)] at e3
          exact e3.symm
        rw [e2]
        exact dens_pairs fun p hp => pairs_dens dn p ((List.mergeSort_perm _ _).mem_iff.mp hp)
      have ly : (((xs.zip ds).mergeSort (dataLe false fun p => keyR Fn p.2)).map (·.1)).length ≤ sizeLine := by
        rw [List.length_map, List.length_mergeSort, List.length_zip]; omega
      have trk : ∀ b u, H b = some u → b < s.heap.objs.size := fun b u e => (I.hok b u e).lt
      have notD : ∀ b u, H b = some u → b ≠ s.heap.objs.size + 1 := fun b u e => Nat.ne_of_lt (Nat.lt_succ_of_lt (trk b u e))
      have notF : ∀ b u, H b = some u → b ∉ frs X.stack := fun b u e z => by rw [I.stkFree b z] at e; cases e
      refine ⟨.ref (s.heap.objs.size + 1), upd H (s.heap.objs.size + 1) (.lst (((xs.zip ds).mergeSort (dataLe false fun p => keyR Fn p.2)).map (·.1))), I.call' (ch := []) (s' := { s1 with heap := h', toks := t }) st.os ⟨fun b o e _ hf _ => lift b o hf e, fun b o e _ _ _ => lifts b o e, fun b o e n _ => ?_, fun b o e _ => ?_, fun b zs e => ?_, fun b o u e => ?_, fun b ps e => ⟨#[], ?_⟩⟩ (fun b u e => ?_) st.bare (fun b z => by cases z), rfl, hQ _ _ hfresh dy⟩
      · rw [upd_ne (Nat.ne_of_lt (Nat.lt_succ_of_lt (Heap.lt_size e)))]; exact n
      · obtain ⟨sl, q⟩ := lifts b o e; exact ⟨_, q⟩
      · rw [upd_ne (notD b _ e)]; exact e
      · rw [upd_ne (notD b _ e)]; exact e
      · rw [upd_ne (notD b _ e)]; simpa using e
      · by_cases hb2 : b = s.heap.objs.size + 1
        · subst hb2
          rw [upd_same] at e
          cases e
          exact ⟨ly, out, c, vy, hD⟩
        · rw [upd_ne hb2] at e
          refine (I.hok b u e).stay (fun c v hc q => lift c v ?_ q) (fun c hc => ?_) fun c zs hc => ?_
          · rcases hc with rfl | hc
            · exact notF _ _ e
            · exact notF _ _ hc
          · rw [upd_ne (notD c _ hc)]; exact hc
          · rw [upd_ne (notD c _ hc)]; exact hc
  · rw [if_neg hz] at hs
    cases hs
end
end DL

/-! DL13: the list that a def returns, as one's own; split, startswith from a place, replace. -/
namespace DL
open PySem PySem.Spec PyProof.Rows L2

/-! ### a returned list is one's own -/
/-- the written part has no lists -/
def noL (K : PySem.W.Frag) : Bool := K.all fun p => !(p.2.cls == .type "list")
theorem lookup_mem : ∀ {K : PySem.W.Frag} {a : Addr} {o : Obj}, K.lookup a = some o → ∃ b, (b, o) ∈ K
  | [], _, _, e => by cases e
  | (b, u) :: K, a, o, e => by
    rw [List.lookup_cons] at e
    split at e
    · cases e; exact ⟨b, List.mem_cons_self⟩
    · obtain ⟨c, h⟩ := lookup_mem e
      exact ⟨c, List.mem_cons_of_mem _ h⟩
theorem noL_no {K : PySem.W.Frag} (h : noL K = true) {a : Addr} {o : Obj} (e : K.lookup a = some o) : o.cls ≠ .type "list" := fun z => by
  obtain ⟨b, m⟩ := lookup_mem e
  have q := List.all_eq_true.mp h _ m
  simp only at q
  rw [z] at q
  simp at q
mutual
def noList : PyData → Bool
  | .none => true
  | .bool _ => true
  | .int _ => true
  | .str _ => true
  | .list _ => false
  | .tuple xs => noLists xs
  | .dict _ => false
def noLists : List PyData → Bool
  | [] => true
  | x :: xs => noList x && noLists xs
end
section
variable {K : PySem.W.Frag} {F F2 : Hp} {a : Addr} {ys : List V}
mutual
theorem Den.away (ha : F a = some (.lst ys)) (k : ∀ b u, b ≠ a → F b = some u → F2 b = some u) : ∀ {v : V} {d : PyData}, Den K F v d → noList d = true → Den K F2 v d
  | _, _, .non, _ => .non
  | _, _, .bl b, _ => .bl b
  | _, _, .int i, _ => .int i
  | _, _, .str x, _ => .str x
  | _, _, .lst _ _, f => by simp [noList] at f
  | _, _, .tup h q, f => by
    refine .tup ?_ (Dens.away ha k q (by simpa [noList] using f))
    have ne : ∀ {b : Addr} {u : HO}, F b = some u → (∀ zs, u ≠ .lst zs) → b ≠ a := fun e n z => by
      subst z
      rw [ha] at e
      exact n _ (Option.some.inj e).symm
    rcases h with (h | ⟨o, h⟩) | h
    · exact .inl (.inl (k _ _ (ne h fun _ z => by cases z) h))
    · exact .inl (.inr ⟨o, k _ _ (ne h fun _ z => by cases z) h⟩)
    · exact .inr h
  | _, _, .dic _ _, f => by simp [noList] at f
theorem Dens.away (ha : F a = some (.lst ys)) (k : ∀ b u, b ≠ a → F b = some u → F2 b = some u) : ∀ {v : List V} {d : List PyData}, Dens K F v d → noLists d = true → Dens K F2 v d
  | _, _, .nil, _ => .nil
  | _, _, .cons h q, f => by
    rw [noLists, Bool.and_eq_true] at f
    exact .cons (Den.away ha k h f.1) (Dens.away ha k q f.2)
end
end
def thawR (r : Res PyData) : Res (List PyData) := match r with
  | .ok (.list ds) => if noLists ds = true then .ok ds else .bad
  | _ => .bad
def dThaw (Fn : List PyData → Res PyData) (fs : Sls → Res (List PyData)) (ρ : Sls) : Res (List PyData) := fs ρ >>= fun as => if as.all flatD = true then thawR (Fn as) else .bad
section
variable {X : Cx} {F0 H0 : Hp} {W : WX} {pos p : Pos} {e : Expr} {es : List Expr} {fs : Sls → Res (List PyData)} {j k : Nat} {f : Addr} {fd : FuncData} {x : Str} {ps : List Str} {Fn : List PyData → Res PyData}
theorem thaw_run {σ : L2.St} {H : Hp} {Q : VK} {n : Nat} (hK : noL X.K = true) (hn : ∀ ρ ds, fs ρ = .ok ds → ds.length = n) (h : nOf F0 H0 W X.mg X.K (dThaw Fn fs) σ H Q) :
    tCallS (spD X.mg X.K n Fn) (WE W) (rd X.mg X.K F0 H0 W (Dens X.K) fs) σ H Q := by
  obtain ⟨ρ, F, sr, q⟩ := h
  refine ⟨ρ, F, sr, ?_⟩
  unfold dThaw at q
  cases e : fs ρ with
  | exc x => simp only [e, bind_exc] at q; exact q
  | bad => simp only [e, bind_bad] at q
  | ok ds =>
    simp only [e, bind_ok] at q
    intro vs H1 F1 g1 r1
    by_cases hf : ds.all flatD = true
    · rw [if_pos hf] at q
      refine ⟨ds, fun _ => none, by rw [r1.length]; exact hn ρ ds e, (fun _ _ z => by cases z), r1.toFlat (fun d hd => List.all_eq_true.mp hf d hd) _, ?_⟩
      cases e2 : Fn ds with
      | exc x => simp only [e2, thawR] at q
      | bad => simp only [e2, thawR] at q
      | ok d =>
        simp only [e2, thawR] at q
        intro v H' F' g r
        cases r with
        | @lst a xs zs h1 h2 =>
          simp only at q
          by_cases hz : noLists zs = true
          · rw [if_pos hz] at q
            have hF : F' a = some (.lst xs) ∨ ∃ o, F' a = some (.frz o (.lst xs)) := by
              rcases h1 with h1 | ⟨o, its, m, hk, hc, _⟩
              · exact h1
              · exact absurd hc (noL_no hK hk)
            have hnew : ∀ b, F' b ≠ none → H1 b = none := fun b hb => by
              by_cases hz2 : H1 b = none
              · exact hz2
              · exact absurd (g.nf b rfl hz2) hb
            have hF : F' a = some (.lst xs) := by
              rcases hF with h | ⟨o, h⟩
              · exact h
              · exact absurd h (g.nz a o _ (hnew a (by rw [h]; simp)))
            have ha : H1 a = none := hnew a (by rw [hF]; simp)
            have haF : F1 a = none := not_of_none g1.fh ha
            let F2 : Hp := fun b => if b = a then none else match F1 b with | some u => some u | none => F' b
            have f2a : F2 a = none := if_pos rfl
            have f2n : ∀ b, b ≠ a → F1 b = none → F2 b = F' b := fun b hb h => by
              show (if b = a then none else match F1 b with | some u => some u | none => F' b) = _
              rw [if_neg hb, h]
            have f2s : ∀ b u, b ≠ a → F1 b = some u → F2 b = some u := fun b u hb h => by
              show (if b = a then none else match F1 b with | some u => some u | none => F' b) = _
              rw [if_neg hb, h]
            have g2 : Gr F1 H1 F2 H' := by
              refine ⟨fun b u h => f2s b u (fun z => by rw [z, haF] at h; cases h) h, g.hh, fun b u h => ?_, fun b h1 h2 => ?_, fun b o u h1 h2 => ?_⟩
              · by_cases hb : b = a
                · rw [hb, f2a] at h; cases h
                · cases e1 : F1 b with
                  | none => rw [f2n b hb e1] at h; exact g.fh b u h
                  | some w => rw [f2s b w hb e1] at h; cases h; exact g.hh b _ (g1.fh b _ e1)
              · by_cases hb : b = a
                · rw [hb]; exact f2a
                · rw [f2n b hb h1]; exact g.nf b rfl h2
              · by_cases hb : b = a
                · rw [hb, f2a] at h2; cases h2
                · rw [f2n b hb (not_of_none g1.fh h1)] at h2; exact g.nz b o u h1 h2
            refine q a xs H' F2 (g1.trans g2) (not_of_none g1.hh ha) (g.fh a _ hF) f2a (h2.away hF (fun b u hb h => ?_) hz)
            have e1 : F1 b = none := not_of_none g1.fh (hnew b (by rw [h]; simp))
            rw [f2n b hb e1]; exact h
          · rw [if_neg hz] at q; exact q.elim
        | _ => exact q.elim
    · rw [if_neg hf] at q; exact q.elim
theorem dn_thaw (G : FnD X.prog X.w X.K X.mg X.base j f fd ps Fn) (hK : noL X.K = true) (c : Cz X W k) (hj : j ≤ k) (hg : Gl X x) (hm : X.mg x = some (.ref f)) (hk : PySem.W.keepIn X.K (.ref f) = true) (hb : Binds X.K fd ps []) (ha : DA X F0 H0 W (e :: es) fs)
    (hn : ∀ ρ ds, fs ρ = .ok ds → ds.length = ps.length) (hdb : (x == ("__debug__" : Str)) = false := by decide) (he : starEach (e :: es) X.env = (false, eval e X.env) :: starEach es X.env := by rfl) (hpl : (backTo pos (starEach es X.env)).any (·.1) = false := by rfl) :
    DN X F0 H0 W (.Call (.Name x p) (e :: es) [] pos) (dThaw Fn fs) :=
  PE.imp (pe_callS G (c.room.mono hj) hg hm hk hb (fun σ => passAt c.tk σ) ha hdb he hpl) fun _ _ _ h => thaw_run hK hn h
end
/-! ### split, startswith from a place -/
def splitD (a : PyData) (as : List PyData) : Option PyData := match a, as with
  | .str x, [.str y] => if y.length ≠ 0 ∧ x.length + 2 ≤ 16777216 then some (.list ((Txt.split x y).map .str)) else none
  | _, _ => none
theorem mt_splitD {X : Cx} : MtR X "str.split" (rM X.K splitD) := by
  intro pins s σ H x xs v us Q I rx rs h
  obtain ⟨a, as, F, ex, da, das, q⟩ := h
  cases da with
  | str z =>
    cases das with
    | nil => exact q.elim
    | cons d1 d2 =>
      cases d2 with
      | cons _ _ => cases d1 <;> exact q.elim
      | nil =>
        cases d1 with
        | str y =>
          have q' : Rop X.K (if y.length ≠ 0 ∧ z.length + 2 ≤ 16777216 then some (.list ((Txt.split z y).map .str)) else none) H F Q := q
          by_cases hz : y.length ≠ 0 ∧ z.length + 2 ≤ 16777216
          · rw [if_pos hz] at q'
            exact mt_split pins s σ H _ _ v us Q I rx rs ⟨z, y, rfl, rfl, by simpa using hz.1, z24 hz.2, fun p hp => q'.newL ex (.of_strs _) hp⟩
          · rw [if_neg hz] at q'; exact q'.elim
        | _ => exact q.elim
  | _ => exact q.elim
def starts3D (a : PyData) (as : List PyData) : Option PyData := match a, as with
  | .str x, [.str y, .int i] => some (.bool (Txt.startswith3 x y i))
  | _, _ => none
theorem mt_starts3D {X : Cx} : MtR X "str.startswith" (rM X.K starts3D) := by
  intro pins s σ H x xs v us Q I rx rs h
  obtain ⟨a, as, F, ex, da, das, q⟩ := h
  cases da with
  | str z =>
    cases das with
    | nil => exact q.elim
    | cons d1 d2 =>
      cases d2 with
      | nil => cases d1 <;> exact q.elim
      | cons d3 d4 =>
        cases d4 with
        | cons _ _ => cases d1 <;> cases d3 <;> exact q.elim
        | nil =>
          cases d1 with
          | str y =>
            cases d3 with
            | int i => exact mt_startswith3 pins s σ H _ _ v us Q I rx rs ⟨z, y, i, rfl, rfl, q.val ex (.bl _)⟩
            | _ => exact q.elim
          | _ => cases d3 <;> exact q.elim
  | _ => exact q.elim
/-! ### replace: a token is out -/
section
variable {X : Cx} {F0 H0 : Hp} {W : WX} {pos p p' p2 apos c0 c1 : Pos} {a e o : Expr} {st : Stmt} {rest b1 b2 : List Stmt} {f : Sls → Res PyData} {g g1 g2 : Sls → Out} {j k : Nat} {x y z : Str}
def DET (X : Cx) (F0 H0 : Hp) (W : WX) (e : Expr) (f : Sls → Res PyData) : Prop := PET X e (rd X.mg X.K F0 H0 W (Den X.K) f)
def DST (X : Cx) (F0 H0 : Hp) (W : WX) (st : Stmt) (g : Sls → Out) : Prop := PST X st (sOf X.mg X.K F0 H0 W g)
def DSsT (X : Cx) (F0 H0 : Hp) (W : WX) (st : List Stmt) (g : Sls → Out) : Prop := PSsT X st (sOf X.mg X.K F0 H0 W g)
def replD (y z : Str) : PyData → Option PyData
  | .str x => if x.length + (x.length + 1) * z.length ≤ 16777216 then some (.str (Txt.replace x y z)) else none
  | _ => none
theorem PET.imp {e : Expr} {t t' : TE} (h : PET X e t) (k : ∀ σ H Q, t' σ H Q → t σ H Q) : PET X e t' := fun pins s σ H Q h0 I q => h pins s σ H Q h0 I (k σ H Q q)
theorem PST.imp {t t' : TS} (h : PST X st t) (k : ∀ D σ H, t' D σ H → t D σ H) : PST X st t' := fun pins s σ H D h0 I q => h pins s σ H D h0 I (k D σ H q)
theorem PSsT.imp {t t' : TS} (h : PSsT X rest t) (k : ∀ D σ H, t' D σ H → t D σ H) : PSsT X rest t' := fun pins s σ H D h0 I q => h pins s σ H D h0 I (k D σ H q)
theorem repl_run {σ : L2.St} {H : Hp} {Q : VK} (h : rd X.mg X.K F0 H0 W (Den X.K) (d1 (replD y z) f) σ H Q) : CwR.tReplC (rd X.mg X.K F0 H0 W (Den X.K) f) y z σ H Q := by
  obtain ⟨ρ, F, sr, q⟩ := h
  obtain ⟨ρ1, F1, sr1, q1⟩ := rd_step (R := Den X.K) sr q
  refine ⟨ρ1, F1, sr1, q1.imp fun v H1 F2 a g1 r1 k => ?_⟩
  obtain ⟨a', F3, g3, r3, sr3, q3⟩ := k v H1 F2 (.refl g1.fh) r1
  cases r3 with
  | str w =>
    have q' : Rest X.mg W (Den X.K) (ofO (if w.length + (w.length + 1) * z.length ≤ 16777216 then some (PyData.str (Txt.replace w y z)) else none)) σ H1 F3 Q := q3
    by_cases hz : w.length + (w.length + 1) * z.length ≤ 16777216
    · rw [if_pos hz] at q'
      exact ⟨w, rfl, hz, Rop.val sr3.ex (Rest.rop q') (.str _)⟩
    · rw [if_neg hz] at q'; exact q'.elim
  | _ => exact q3.elim
theorem det_repl (ho : DE X F0 H0 W o f) (hyz : (y == z) = false := by decide)
    (hst : starEach [.Constant (.str y) j c0, .Constant (.str z) k c1] X.env = [(false, eval (.Constant (.str y) j c0) X.env), (false, eval (.Constant (.str z) k c1) X.env)] := by rfl)
    (hbase : attributeBase o "replace" X.env (eval o X.env) = eval o X.env := by rfl) (hline : (apos.endLine == pos.line) = true := by rfl) :
    DET X F0 H0 W (.Call (.Attribute o "replace" apos) [.Constant (.str y) j c0, .Constant (.str z) k c1] [] pos) (d1 (replD y z) f) :=
  PET.imp (CwR.pet_replC ho hyz hst hbase hline) fun _ _ _ h => repl_run h
theorem det_replT (ho : DET X F0 H0 W o f) (hyz : (y == z) = false := by decide)
    (hst : starEach [.Constant (.str y) j c0, .Constant (.str z) k c1] X.env = [(false, eval (.Constant (.str y) j c0) X.env), (false, eval (.Constant (.str z) k c1) X.env)] := by rfl)
    (hbase : attributeBase o "replace" X.env (eval o X.env) = eval o X.env := by rfl) (hline : (apos.endLine == pos.line) = true := by rfl) :
    DET X F0 H0 W (.Call (.Attribute o "replace" apos) [.Constant (.str y) j c0, .Constant (.str z) k c1] [] pos) (d1 (replD y z) f) :=
  PET.imp (CwR.pet_replT ho hyz hst hbase hline) fun _ _ _ h => repl_run h
/-- a written text, then what asks a token -/
theorem de_binT {op : Operator} {g : PyData → PyData → Option PyData} (ho : OpR X (binaryOp op) (r2 X.K g)) (hb : DET X F0 H0 W e f) : DE X F0 H0 W (.BinOp (.Constant (.str x) j c0) op e pos) (d2 g (fun _ => .ok (.str x)) f) := by
  refine ⟨fun pins s σ H Q I h => ?_⟩
  have h2 := two (f1 := fun _ => .ok (.str x)) h
  obtain ⟨ρ, F, sr, q⟩ := h2
  have q2 := q (.str x) H F (.refl sr.ex) (.str x)
  refine wpAny_BinOp (Calls.Constant_str (thn (hb pins _ σ H _ (by show 1 ≤ s.toks + 1; omega) (I.tok _) q2) fun u s2 ⟨w, H2, I2, r2, q3⟩ => ?_))
  exact ho pins s2 σ H2 (.str x) w (.str x s.toks) u Q I2 ⟨s.toks, rfl⟩ r2 q3
theorem dsst_of (h : DSs X F0 H0 W rest g) : DSsT X F0 H0 W rest g := PSsT.of h
theorem dst_of (h : DS X F0 H0 W st g) : DST X F0 H0 W st g := PST.of h
theorem dsst_cons (h1 : DST X F0 H0 W st g1) (h2 : DSsT X F0 H0 W rest g2) : DSsT X F0 H0 W (st :: rest) (gSeq g1 g2) := by
  refine PSsT.imp (psst_cons h1 h2) fun D σ H ⟨ρ, F, sr, q⟩ => ⟨ρ, F, sr, ?_⟩
  unfold gSeq at q
  cases e : g1 ρ with
  | nx ρ' =>
    rw [e] at q
    exact fun σ' H' F' sr' x => ⟨ρ', F', sr', q.weak x⟩
  | rt d => rw [e] at q; exact q
  | bk ρ' => rw [e] at q; exact q
  | ct ρ' => rw [e] at q; exact q
  | exc x ρ' => rw [e] at q; exact q
  | bad => rw [e] at q; exact q
theorem dst_set {i : Nat} (hN : X.N.Nodup) (hi : X.N[i]? = some x) (hx : Loc X.env.scope x) (he : DET X F0 H0 W e f) (hs : swapsWith e (some (.Name x p')) pos.line X.env = pure false := by rfl) (hf : X.fn x = true ∨ X.env.scope.names.lookup x = some .local := by first | exact .inl rfl | exact .inr rfl | assumption) :
    DST X F0 H0 W (.Assign [.Name x p'] e pos) (gSet i f) := by
  intro pins s σ H D h0 I h
  obtain ⟨ρ, F, sr, q⟩ := h
  obtain ⟨ρ1, F1, sr1, q1⟩ := fin_rd (R := Den X.K) sr q
  refine wpAny_Assign_Name (thn (he pins s σ H _ h0 I ⟨ρ1, F1, sr1, q1⟩) fun v s1 ⟨y, H1, I1, r1, a', F3, g3, r3, sr3, q3⟩ => ?_) hs
  exact store_ok I1 hN hi hx r1 (fun s2 I2 => ⟨_, H1, I2, q3 _ H1 F3 (sr3.set r3 i) (.refl _)⟩) hf
/-- behind a test against a written number a token is out -/
theorem ds_ifT {op : CmpOp} {n : Int} {gg : PyData → PyData → Option PyData} (ho : OpR X (compareOp op) (r2 X.K gg)) (hm : behindInMarks op (.Constant (.int n) j c0) = false) (ha : DE X F0 H0 W a f) (hA : DSsT X F0 H0 W b1 g1) (hB : DSs X F0 H0 W b2 g2) :
    DS X F0 H0 W (.If (.Compare a [op] [.Constant (.int n) j c0] p2) b1 b2 pos) (gIf (dB (d2 gg f (fun _ => .ok (.int n)))) g1 g2) := by
  refine ⟨fun pins s σ H D I h => ?_⟩
  obtain ⟨ρ, F, sr, q⟩ := h
  obtain ⟨ρ1, F1, sr1, q1⟩ := fin_rd (R := REq) sr q
  have q2 := two (f1 := f) (f2 := fun _ => .ok (.int n)) (rdB (f := d2 gg f (fun _ => .ok (.int n))) ⟨ρ1, F1, sr1, q1⟩)
  refine wpAny_If (wpAny_isTrue_Compare1 (thn (ha.run pins s σ H _ I q2) fun v s1 ⟨x, H1, I1, r1, ρ2, F2, sr2, q3⟩ => wpAny_Constant_int ?_) hm)
  have q4 := q3 (.int n) H1 F2 (.refl sr2.ex) (.int n)
  refine wpAny_with_toks (n := 1) (by show 1 ≤ s1.toks + 1; omega) ?_
  refine wpAny_mono (ho pins _ σ H1 x (.int n) v (.int n s1.toks) _ (I1.tok (s1.toks + 1)) r1 ⟨s1.toks, rfl⟩ q4) (fun c s3 w hk => ?_) fun _ _ h _ => h
  obtain ⟨z, H3, I3, r3, kk, e, q5⟩ := w
  subst e
  cases r3
  obtain ⟨a', F3, g3, e6, sr3, q6⟩ := q5
  have e7 : kk = a' := e6
  subst e7
  refine wpAny_truthy_bool ?_
  cases kk with
  | true => exact hA pins s3 σ H3 D hk I3 ⟨ρ, F3, sr3, q6⟩
  | false => exact hB.run pins s3 σ H3 D I3 ⟨ρ, F3, sr3, q6⟩
/-- the rest of a block behind such a test -/
theorem dss_ifT {op : CmpOp} {n : Int} {gg : PyData → PyData → Option PyData} {g3 : Sls → Out} (ho : OpR X (compareOp op) (r2 X.K gg)) (hm : behindInMarks op (.Constant (.int n) j c0) = false) (ha : DE X F0 H0 W a f) (hA : DSs X F0 H0 W b1 g1) (hB : DSs X F0 H0 W b2 g2) (hR : DSsT X F0 H0 W rest g3) :
    DSs X F0 H0 W (.If (.Compare a [op] [.Constant (.int n) j c0] p2) b1 b2 pos :: rest) (gSeq (gIf (dB (d2 gg f (fun _ => .ok (.int n)))) g1 g2) g3) := by
  refine ⟨fun pins s σ H D I h => ?_⟩
  obtain ⟨ρ, F, sr, q⟩ := h
  let D2 : Ends := { D with nx := fun σ' H' => sOf X.mg X.K F0 H0 W g3 D σ' H' }
  have q : Fin X.mg X.K F0 H0 W (gIf (dB (d2 gg f (fun _ => .ok (.int n)))) g1 g2 ρ) D2 F := by
    unfold gSeq at q
    cases e : gIf (dB (d2 gg f (fun _ => .ok (.int n)))) g1 g2 ρ with
    | nx ρ' => rw [e] at q; exact fun σ' H' F' sr' x => ⟨ρ', F', sr', q.weak x⟩
    | rt d => rw [e] at q; exact q
    | bk ρ' => rw [e] at q; exact q
    | ct ρ' => rw [e] at q; exact q
    | exc x ρ' => rw [e] at q; exact q
    | bad => rw [e] at q; exact q
  obtain ⟨ρ1, F1, sr1, q1⟩ := fin_rd (R := REq) sr q
  have q2 := two (f1 := f) (f2 := fun _ => .ok (.int n)) (rdB (f := d2 gg f (fun _ => .ok (.int n))) ⟨ρ1, F1, sr1, q1⟩)
  have first : wpAny (model X.prog X.w) X.A (exec (.If (.Compare a [op] [.Constant (.int n) j c0] p2) b1 b2 pos) X.env) (fun fl s' => 1 ≤ s'.toks ∧ SP X pins D2 fl s') X.xe s := by
    refine wpAny_If (wpAny_isTrue_Compare1 (thn (ha.run pins s σ H _ I q2) fun v s1 ⟨x, H1, I1, r1, ρ2, F2, sr2, q3⟩ => wpAny_Constant_int ?_) hm)
    have q4 := q3 (.int n) H1 F2 (.refl sr2.ex) (.int n)
    refine wpAny_with_toks (n := 1) (by show 1 ≤ s1.toks + 1; omega) ?_
    refine wpAny_mono (ho pins _ σ H1 x (.int n) v (.int n s1.toks) _ (I1.tok (s1.toks + 1)) r1 ⟨s1.toks, rfl⟩ q4) (fun c s3 w hk => ?_) fun _ _ h _ => h
    obtain ⟨z, H3, I3, r3, kk, e, q5⟩ := w
    subst e
    cases r3
    obtain ⟨a', F3, g3', e6, sr3, q6⟩ := q5
    have e7 : kk = a' := e6
    subst e7
    refine wpAny_truthy_bool ?_
    cases kk with
    | true => exact wpAny_mono (wpAny_toks_of hk (hA.run pins s3 σ H3 D2 I3 ⟨ρ, F3, sr3, q6⟩)) (fun _ _ z => z) fun _ _ z => z.2
    | false => exact wpAny_mono (wpAny_toks_of hk (hB.run pins s3 σ H3 D2 I3 ⟨ρ, F3, sr3, q6⟩)) (fun _ _ z => z) fun _ _ z => z.2
  refine wpAny_execs_cons (wpAny_mono first (fun fl s1 w => ?_) fun _ _ z => z)
  obtain ⟨hk, w⟩ := w
  cases fl with
  | next =>
    obtain ⟨σ', H', I', q'⟩ := w
    exact hR pins s1 σ' H' D hk I' q'
  | ret v => exact w
  | brk => exact w
  | cont => exact w
end
end DL

/-! DL14: exceptions: raise of own classes, try with one clause that names the exception. -/
namespace DL
open PySem PySem.Spec PyProof.Rows L2

/-! ### classes -/
abbrev veMro : List Value := [.type "ValueError", .type "Exception", .type "BaseException", .type "object"]
/-- a class over ValueError without own __init__ -/
structure ExPl (K : PySem.W.Frag) (mg : Str → Option Value) (nm : Str) (C : Addr) : Prop where
  g : mg nm = some (.ref C)
  x : PySem.W.excIn K C veMro "ValueError.__new__" = true
  k : PySem.W.keepIn K (.ref C) = true
  b : PySem.W.subIn K (.ref C) (.type "BaseException") = some true
  t : PySem.W.typeIn K (.ref C) = some (.type "type")
/-- one with __init__(self, at): self.at = at -/
structure ExAt (K : PySem.W.Frag) (mg : Str → Option Value) (nm : Str) (C fI : Addr) : Prop where
  g : mg nm = some (.ref C)
  ox : OexC K C
  no : PySem.W.findIn K (.ref C) "at" = some none
  iC : PySem.W.findIn K (.ref C) "__init__" = some (some (.ref fI))
  tI : PySem.W.typeIn K (.ref fI) = some (.type "function")
section
variable {P : Program} {w : World} {K : PySem.W.Frag} {mg : Str → Option Value} {base : Heap}
def spI (K : PySem.W.Frag) (C : Addr) : Sp := fun vs H Q E => ∃ a v, vs = [.ref a, v] ∧ H a = some (exo a C none) ∧ ∀ dx, H dx = none → dx ≠ a → Q .non (upd (upd H dx (exd dx [("at", v)])) a (exo a C (some dx)))
theorem init_ok {qual : Str} {st : Stmt} {fI C : Addr} {fd : FuncData} {p1 p2 p3 p4 : Pos} (Fu : L2.Fun K "__init__" qual st fI fd) (S : FnScope ["self", "at"] ["self", "at"] (defScope st)) (hb : defBody st = [.Assign [.Attribute (.Name "self" p1) "at" p2] (.Name "at" p3) p4])
    (ox : OexC K C) (no : PySem.W.findIn K (.ref C) "at" = some none) : FnOk P w K mg base (L2.CX P w) 1 fI fd ["self", "at"] (spI K C) := by
  refine Fu.okX S (fun vs H Q E h => ?_) (fun cdv A outer s H vs Q E hr h => ?_)
  · obtain ⟨a, v, rfl, _⟩ := h; rfl
  · obtain ⟨a, v, rfl, ha, q⟩ := h
    have vis : ∀ x ∈ (["self", "at"] : List Str), Vis (defScope st) x := fun x hx => by
      rcases S.par x hx with h | h
      · exact .inl h
      · exact .inr (.inl h)
    rw [hb]
    refine ⟨_, pss_one (ps_ost (pe_var (i := 0) rfl (vis "self" (by simp))) (pe_var (i := 1) rfl (vis "at" (by simp)))), ?_⟩
    exact ⟨v, rfl, .ref a, rfl, a, C, rfl, ox, no, .inl ⟨ha, fun dx h1 h2 => q dx h1 h2⟩⟩
end
/-! ### raise -/
section
variable {X : Cx} {F0 H0 : Hp} {W : WX} {pos p : Pos} {e : Expr} {f : Sls → Res PyData} {nm : Str} {C fI : Addr} {fd : FuncData} {k : Nat}
def gRaise0 (nm : Str) (ρ : Sls) : Out := .exc ⟨nm, []⟩ ρ
def gRaise1 (nm : Str) (f : Sls → Res PyData) : Sls → Out := sE f fun d ρ => if flatD d = true then .exc ⟨nm, [("at", flatOf d)]⟩ ρ else .bad
theorem pmk_own0 {bmB : List Value} {B newId initId : String} (F : ExcBaseFacts B newId initId bmB) (q : PySem.W.excIn X.K C bmB newId = true) (gC : X.mg nm = some (.ref C))
    (kC : PySem.W.keepIn X.K (.ref C) = true) (r : Raises X (.ref C)) (hg : Gl X nm) (hdb : (nm == ("__debug__" : Str)) = false := by decide) :
    PMk X (.Call (.Name nm p) [] [] pos) (fun σ H Q => Q (.ref C) none H) := by
  intro pins s σ H Q I h
  obtain ⟨bm, N, n2, qn, bs, hdct, sn, sub, ab, col, dd, k0, k1, k2, k3, k5, mN, hC, hN, hni, T⟩ := exc_obj I.kIn q
  refine wpAny_Call_Name_kw (ld_glob I hg gC ?_ hdb)
  refine PySem.W.callWith_K0 I.kIn kC (wpAny_call_exc_subT F T hC hN hni (fun h' e hm => ?_) (Nat.zero_le _))
  exact mk_of I hm r h (I.hok.gone hm.new)
theorem ds_raise0 {pos2 : Pos} (T : ExPl X.K X.mg nm C) (c : Cz X W k) (hg : Gl X nm) (hdb : (nm == ("__debug__" : Str)) = false := by decide) : DS X F0 H0 W (.Raise (some (.Call (.Name nm p) [] [] pos)) none pos2) (gRaise0 nm) := by
  refine PS.imp (ps_raise c.calm c.tk (pmk_own0 PySem.F.excBase_ValueError T.x T.g T.k (raises_own T.b T.t) hg hdb)) fun D σ H ⟨ρ, F, sr, q⟩ => ?_
  exact q _ none σ H F sr (.refl _) ⟨T.g, .inl ⟨rfl, rfl⟩⟩
theorem ds_raise1 {pos2 : Pos} (T : ExAt X.K X.mg nm C fI) (F1 : FnOk X.prog X.w X.K X.mg X.base (L2.CX X.prog X.w) 1 fI fd ["self", "at"] (spI X.K C)) (hb : Binds X.K fd ["self", "at"] []) (c : Cz X W k) (hk : 2 ≤ k) (hg : Gl X nm) (he : DE X F0 H0 W e f) (hdb : (nm == ("__debug__" : Str)) = false := by decide)
    (hs : starEach (e :: []) X.env = (false, eval e X.env) :: starEach [] X.env := by rfl) (hpl : (backTo pos (starEach [] X.env)).any (·.1) = false := by rfl) :
    DS X F0 H0 W (.Raise (some (.Call (.Name nm p) [e] [] pos)) none pos2) (gRaise1 nm f) := by
  refine PS.imp (ps_raise c.calm c.tk (pmk_oex T.ox T.iC T.tI F1 (c.room.mono hk) hb .nil passL hg T.g (pa_cons he pa_nil hs) hdb hs hpl)) fun D σ H ⟨ρ, F, sr, q⟩ => ?_
  obtain ⟨ρ1, F1', sr1, q1⟩ := fin_rd (R := Den X.K) sr q
  refine ⟨ρ1, F1', sr1, q1.imp fun v H1 F2 a g1 r1 kk => ?_⟩
  obtain ⟨d, F3, g3, r3, sr3, q3⟩ := kk v H1 F2 (.refl g1.fh) r1
  by_cases hf : flatD d = true
  · rw [if_pos hf] at q3
    have hv := r3.flat hf
    subst hv
    refine ⟨by show 1 ≤ 1000; decide, fun a ha => ⟨a, flatOf d, rfl, upd_same, fun dx h1 h2 => ⟨rfl, dx, [("at", flatOf d)], upd_same, ?_, ?_, ?_⟩⟩⟩
    · rw [upd_ne h2, upd_same]
    · rw [upd_ne h2] at h1; exact h1
    · have hdx : H1 dx = none := by rw [upd_ne h2] at h1; exact h1
      have eq : upd (del (upd (upd (upd H1 a (exo a C none)) dx (exd dx [("at", flatOf d)])) a (exo a C (some dx))) a) dx (.xd [("at", flatOf d)]) = upd H1 dx (.xd [("at", flatOf d)]) := by
        funext b
        by_cases hb : b = dx
        · rw [hb, upd_same, upd_same]
        · rw [upd_ne hb, upd_ne hb]
          by_cases hba : b = a
          · rw [hba, del_same, ha]
          · rw [del_ne hba, upd_ne hba, upd_ne hb, upd_ne hba]
      rw [eq]
      have g : Gr F3 H1 F3 (upd H1 dx (.xd [("at", flatOf d)])) := Gr.newO sr3.ex hdx
      exact q3 _ (some dx) σ _ F3 (sr3.grow g) (.refl _) ⟨T.g, .inr ⟨by simp, dx, rfl, upd_same, not_of_none sr3.ex hdx⟩⟩
  · rw [if_neg hf] at q3; exact q3.elim
end
/-! ### slots -/
section
variable {K : PySem.W.Frag} {F0 H0 : Hp} {ρ : Sls} {σ : L2.St} {H F : Hp}
theorem SR.setA (r : SR K F0 H0 ρ σ H F) (a : Addr) (i : Nat) : SR K F0 H0 (ρ.set i (.adr a)) (σ.set i (some (.ref a))) H F := by
  have ow : ∀ j b, OwnAt (ρ.set i (.adr a)) (σ.set i (some (.ref a))) j b → j ≠ i ∧ OwnAt ρ σ j b := fun j b ⟨⟨ds, e1⟩, e2⟩ => by
    by_cases hj : j = i
    · subst hj
      by_cases hl : j < ρ.length
      · rw [List.getElem?_set_self hl] at e1; cases e1
      · rw [List.getElem?_eq_none (by simpa using hl)] at e1; cases e1
    · rw [List.getElem?_set_ne (Ne.symm hj)] at e1 e2
      exact ⟨hj, ⟨ds, e1⟩, e2⟩
  refine ⟨r.gr, by simp [r.len], fun j s e => ?_, fun j b o => r.own0 j b (ow j b o).2, fun j k b o1 o2 => r.sep j k b (ow j b o1).2 (ow k b o2).2⟩
  by_cases hj : j = i
  · subst hj
    by_cases hl : j < ρ.length
    · rw [List.getElem?_set_self hl] at e; cases e
      rw [List.getElem?_set_self (by rw [← r.len]; exact hl)]
      rfl
    · rw [List.getElem?_eq_none (by simpa using hl)] at e; cases e
  · rw [List.getElem?_set_ne (Ne.symm hj)] at e ⊢
    exact r.sl j s e
/-- the base knows of an exception's dict -/
theorem SR.know (r : SR K F0 H0 ρ σ H F) {d : Addr} {fs : List (Str × V)} (h1 : H d = some (.xd fs)) (h2 : F d = none) : SR K F0 (upd H0 d (.xd fs)) ρ σ H F := by
  refine ⟨⟨r.gr.ff, fun b u q => ?_, r.gr.fh, fun b q1 q2 => ?_, fun b o u q1 => ?_⟩, r.len, r.sl, fun i b o => ?_, r.sep⟩
  · by_cases hb : b = d
    · rw [hb, upd_same] at q; cases q; rw [hb]; exact h1
    · rw [upd_ne hb] at q; exact r.gr.hh b u q
  · by_cases hb : b = d
    · rw [hb]; exact h2
    · rw [upd_ne hb] at q2; exact r.gr.nf b q1 q2
  · by_cases hb : b = d
    · rw [hb, upd_same] at q1; cases q1
    · rw [upd_ne hb] at q1; exact r.gr.nz b o u q1
  · have hne : b ≠ d := fun z => by
      obtain ⟨⟨ds, e1⟩, e2⟩ := o
      obtain ⟨b2, xs, e3, k1, _⟩ := r.sl i _ e1
      rw [e2] at e3
      have e4 : V.ref b = V.ref b2 := Option.some.inj (Option.some.inj e3)
      cases e4
      rw [z, h1] at k1
      cases k1
    rw [upd_ne hne]
    exact r.own0 i b o
theorem Gr.forget {F' H' : Hp} {d : Addr} {fs : List (Str × V)} (g : Gr F0 (upd H0 d (.xd fs)) F' H') (h0 : F0 d = none) (h1 : H0 d = none ∨ H0 d = some (.xd fs)) : Gr F0 H0 F' H' := by
  refine ⟨g.ff, fun b u q => ?_, g.fh, fun b q1 q2 => ?_, fun b o u q1 q2 => ?_⟩
  · by_cases hb : b = d
    · rw [hb] at q
      rcases h1 with h1 | h1
      · rw [h1] at q; cases q
      · rw [h1] at q; cases q; rw [hb]; exact g.hh d _ upd_same
    · exact g.hh b u (by rw [upd_ne hb]; exact q)
  · refine g.nf b q1 ?_
    by_cases hb : b = d
    · rw [hb, upd_same]; simp
    · rw [upd_ne hb]; exact q2
  · by_cases hb : b = d
    · have := g.nf d h0 (by rw [upd_same]; simp)
      rw [hb, this] at q2; cases q2
    · exact g.nz b o u (by rw [upd_ne hb]; exact q1) q2
end
/-! ### try: body, except C as n: a suite that returns -/
/-- what a clause of the class at C does with the classes of the table -/
def CatchT (K : PySem.W.Frag) (mg : Str → Option Value) (C : Addr) (tab : List (Str × Bool)) : Prop := ∀ nm b, tab.lookup nm = some b → ∃ A, mg nm = some (.ref A) ∧ PySem.W.exmOne K (.ref A) (.ref C) = some b
theorem catch_nil {K : PySem.W.Frag} {mg : Str → Option Value} {C : Addr} : CatchT K mg C [] := fun _ _ h => by cases h
theorem catch_cons {K : PySem.W.Frag} {mg : Str → Option Value} {C A : Addr} {nm : Str} {b : Bool} {tab : List (Str × Bool)} (h1 : mg nm = some (.ref A)) (h2 : PySem.W.exmOne K (.ref A) (.ref C) = some b) (h : CatchT K mg C tab) : CatchT K mg C ((nm, b) :: tab) := fun n b' e => by
  rw [List.lookup_cons] at e
  split at e
  · rename_i q
    have : n = nm := by simpa using q
    subst this
    cases e
    exact ⟨A, h1, h2⟩
  · exact h n b' e
noncomputable def gTryR (tab : List (Str × Bool)) (i : Nat) (g1 : Sls → Out) (g2 : Addr → Xn → Sls → Out) (ρ : Sls) : Out := match g1 ρ with
  | .exc x ρ1 => match tab.lookup x.nm with
    | some true => open Classical in if h : ∃ d, ∀ a, g2 a x (ρ1.set i (.adr a)) = .rt d then .rt h.choose else .bad
    | some false => .exc x ρ1
    | none => .bad
  | .nx ρ1 => .nx ρ1
  | .rt d => .rt d
  | .bk ρ1 => .bk ρ1
  | .ct ρ1 => .ct ρ1
  | .bad => .bad
/-- where the suite finds the exception's own dict -/
def XdOk (x : Xn) (d : Option Addr) (H : Hp) : Prop := (x.fs = [] ∧ d = none) ∨ ∃ dd, d = some dd ∧ H dd = some (.xd x.fs)
section
variable {X : Cx} {F0 H0 : Hp} {W : WX} {pos pos' np : Pos} {body suite : List Stmt} {b₀ : Stmt} {n cn : Str} {C : Addr} {i k : Nat} {g1 : Sls → Out} {g2 : Addr → Xn → Sls → Out} {tab : List (Str × Bool)}
theorem ds_tryR (c : Cz X W k) (hN : X.N.Nodup) (hi : X.N[i]? = some n) (gC : Gl X cn) (mC : X.mg cn = some (.ref C)) (T : CatchT X.K X.mg C tab)
    (hb : ∀ (W' : WX) (pn : List (Addr × Obj)) (xe : Value → Shared → Prop), Cz (X.tr pn xe) W' k → DSs (X.tr pn xe) F0 H0 W' body g1)
    (hsu : ∀ (a : Addr) (oe : Obj) (cls : Value) (d : Option Addr) (pn : List (Addr × Obj)) (x : Xn) (H1 : Hp), Zc cls d oe → (∃ vs, oe.data = .fields vs) → X.mg x.nm = some cls → XdOk x d H1 → DSs (X.suite a ((a, oe) :: pn)) F0 H1 WF (b₀ :: suite) (g2 a x))
    (hs : X.stack = X.env :: X.outer := by rfl) (hf : X.env.frame = some X.env.locals := by rfl) (hln : X.env.kindOf n = some .local := by rfl) (hdb : (cn == ("__debug__" : Str)) = false := by decide) :
    DS X F0 H0 W (.Try body [.ExceptHandler (some (.Name cn np)) (some n) (b₀ :: suite) pos'] [] [] pos) (gTryR tab i g1 g2) := by
  refine PS.imp (ps_try_as (c := .ref C) (tb := fun W' => sOf X.mg X.K F0 H0 W' g1) (ts := fun a cls d => fun D σ H => ∃ (x : Xn) (H1 : Hp), X.mg x.nm = some cls ∧ XdOk x d H1 ∧ sOf X.mg X.K F0 H1 WF (g2 a x) D σ H) hs hf hN hi hln ⟨gC, hdb, .inl mC⟩ c.tk
    (fun W' pn xe tk po => hb W' pn xe ⟨c.calm, tk, po, c.room⟩) (fun a oe cls d pn hz hfl => ⟨fun pins s σ H D I ⟨x, H1, q1, q2, q3⟩ => (hsu a oe cls d pn x H1 hz hfl q1 q2).run pins s σ H D I q3⟩)) fun D σ H ⟨ρ, F, sr, q⟩ => ⟨ρ, F, sr, ?_⟩
  unfold gTryR at q
  cases e : g1 ρ with
  | nx ρ1 => rw [e] at q; exact q
  | rt d => rw [e] at q; exact q
  | bk ρ1 => rw [e] at q; exact q
  | ct ρ1 => rw [e] at q; exact q
  | bad => rw [e] at q; exact q
  | exc x ρ1 =>
    rw [e] at q
    simp only at q
    intro cls dd σ' H' F' sr' ex' r'
    cases e2 : tab.lookup x.nm with
    | none => rw [e2] at q; exact q.elim
    | some b =>
      rw [e2] at q
      obtain ⟨A, hA, hm⟩ := T x.nm b e2
      have hcls : cls = .ref A := by have := r'.1; rw [hA] at this; exact (Option.some.inj this).symm
      subst hcls
      refine ⟨b, hm, fun hbt a ha => ?_, fun hbf => ?_⟩
      · subst hbt
        simp only at q
        split at q
        · rename_i h
          have hrt := h.choose_spec a
          have sr2 := sr'.setA a i
          rcases r'.2 with ⟨h1, h2⟩ | ⟨h1, d, h2, h3, h4⟩
          · refine ⟨x, H0, r'.1, .inl ⟨h1, h2⟩, _, F', sr2, ?_⟩
            rw [hrt]
            exact fun v H2 F2 gr x2 dn => q v H2 F2 gr (ex'.trans x2) dn
          · have hF0 : F0 d = none := by
              cases z : F0 d with
              | none => rfl
              | some u => rw [sr'.gr.ff d u z] at h4; cases h4
            have hH0 : H0 d = none ∨ H0 d = some (.xd x.fs) := by
              cases z : H0 d with
              | none => exact .inl rfl
              | some u => rw [sr'.gr.hh d u z] at h3; exact .inr h3
            refine ⟨x, upd H0 d (.xd x.fs), r'.1, .inr ⟨d, h2, upd_same⟩, _, F', sr2.know h3 h4, ?_⟩
            rw [hrt]
            exact fun v H2 F2 gr x2 dn => q v H2 F2 (gr.forget hF0 hH0) (ex'.trans x2) dn
        · exact q.elim
      · subst hbf
        simp only at q
        exact q _ dd σ' H' F' sr' ex' r'
end
/-! ### what a suite asks of its exception -/
def onAdr (i : Nat) (a : Addr) (r : Res PyData) (ρ : Sls) : Res PyData := match ρ[i]? with
  | some (.adr a') => if a' = a then r else .bad
  | _ => .bad
/-- isinstance(e, cv) -/
def IsT (K : PySem.W.Frag) (mg : Str → Option Value) (cv : Value) (tab : List (Str × Bool)) : Prop := ∀ nm b, tab.lookup nm = some b → ∃ A, mg nm = some (.ref A) ∧ ExcC K A ∧ PySem.W.kitOne K (.ref A) cv = some b
theorem is_nil {K : PySem.W.Frag} {mg : Str → Option Value} {cv : Value} : IsT K mg cv [] := fun _ _ h => by cases h
theorem is_cons {K : PySem.W.Frag} {mg : Str → Option Value} {cv : Value} {A : Addr} {nm : Str} {b : Bool} {tab : List (Str × Bool)} (h1 : mg nm = some (.ref A)) (h2 : ExcC K A) (h3 : PySem.W.kitOne K (.ref A) cv = some b) (h : IsT K mg cv tab) : IsT K mg cv ((nm, b) :: tab) := fun n b' e => by
  rw [List.lookup_cons] at e
  split at e
  · rename_i q
    have : n = nm := by simpa using q
    subst this
    cases e
    exact ⟨A, h1, h2, h3⟩
  · exact h n b' e
def dIsE (i : Nat) (a : Addr) (tab : List (Str × Bool)) (x : Xn) (ρ : Sls) : Res PyData := onAdr i a (match tab.lookup x.nm with
  | some b => .ok (.bool b)
  | none => .bad) ρ
/-- e.at -/
def AtT (K : PySem.W.Frag) (mg : Str → Option Value) (tab : List Str) : Prop := ∀ nm ∈ tab, ∃ A, mg nm = some (.ref A) ∧ XfC K A ∧ PySem.W.findIn K (.ref A) "at" = some none
theorem at_cons {K : PySem.W.Frag} {mg : Str → Option Value} {A : Addr} {nm : Str} {tab : List Str} (h1 : mg nm = some (.ref A)) (h2 : XfC K A) (h3 : PySem.W.findIn K (.ref A) "at" = some none) (h : AtT K mg tab) : AtT K mg (nm :: tab) := fun n hn => by
  rcases List.mem_cons.mp hn with rfl | hn
  · exact ⟨A, h1, h2, h3⟩
  · exact h n hn
def dOfV : V → Res PyData
  | .non => .ok .none
  | .bl b => .ok (.bool b)
  | .int i => .ok (.int i)
  | .str x => .ok (.str x)
  | _ => .bad
def dAt (i : Nat) (a : Addr) (tab : List Str) (x : Xn) (ρ : Sls) : Res PyData := onAdr i a (if x.nm ∈ tab then (match x.fs.lookup ("at" : Str) with
  | some v => dOfV v
  | none => .bad) else .bad) ρ
section
variable {X : Cx} {F0 H1 : Hp} {pos p p1 p2 pa : Pos} {a : Addr} {oe : Obj} {cls : Value} {d : Option Addr} {pn : List (Addr × Obj)} {x : Xn} {n cn : Str} {i : Nat} {tab : List (Str × Bool)} {cv : Value}
theorem adr_run {σ : L2.St} {H : Hp} {Q : VK} {r : Res PyData} {mg : Str → Option Value} {K : PySem.W.Frag} (h : rd mg K F0 H1 WF (Den K) (onAdr i a r) σ H Q) : σ[i]? = some (some (.ref a)) ∧ ∃ ρ F, SR K F0 H1 ρ σ H F ∧ Rest mg WF (Den K) r σ H F Q := by
  obtain ⟨ρ, F, sr, q⟩ := h
  unfold onAdr at q
  cases e : ρ[i]? with
  | none => rw [e] at q; exact q.elim
  | some s =>
    rw [e] at q
    cases s with
    | adr a' =>
      simp only at q
      by_cases ha : a' = a
      · rw [if_pos ha] at q
        subst ha
        exact ⟨sr.sl i _ e, ρ, F, sr, q⟩
      · rw [if_neg ha] at q; exact q.elim
    | _ => exact q.elim
theorem inst_of {pins : List (Addr × Obj)} {s : Shared} {σ : L2.St} {H : Hp} {A : Addr} {F : Hp} {ρ : Sls} {σ0 : L2.St} (hz : Zc (.ref A) d oe) (hf : ∃ vs, oe.data = .fields vs) (xd : XdOk x d H1) (I : Inv (X.suite a ((a, oe) :: pn)) pins σ H s) (sr : SR X.K F0 H1 ρ σ0 H F) : ∃ od, PySem.W.InstAt s.heap a oe A od := by
  obtain ⟨hget, _⟩ := I.pin (a, oe) (List.mem_append.mpr (.inl List.mem_cons_self))
  obtain ⟨vs, hv⟩ := hf
  rcases xd with ⟨_, hd⟩ | ⟨dd, hd, hx⟩
  · exact ⟨none, hget, hz.1, by unfold PySem.W.notCls; rw [hv] <;> rfl, by rw [hz.2, hd]; exact trivial⟩
  · have ho : ObjOk X.prog X.w H s.heap dd (.xd x.fs) := I.hok dd _ (sr.gr.hh dd _ hx)
    obtain ⟨mA, hns, _⟩ := ho
    obtain ⟨od, ho, _⟩ := lookIn_ns hns
    exact ⟨some od, hget, hz.1, by unfold PySem.W.notCls; rw [hv] <;> rfl, by rw [hz.2, hd]; exact ho⟩
def rIsX (K : PySem.W.Frag) (F0 H1 : Hp) (A a : Addr) : List V → Hp → VK → Prop := fun xs H Q => ∃ (c : V) (cv : Value) (b : Bool) (ρ : Sls) (σ : L2.St) (F : Hp), xs = [.ref a, c] ∧ (∀ u, RelV c u → u = cv) ∧ PySem.W.kitOne K (.ref A) cv = some b ∧ SR K F0 H1 ρ σ H F ∧ Q (.bl b) H
theorem call_isX {A : Addr} (T : ExcC X.K A) (hz : Zc (.ref A) d oe) (hf : ∃ vs, oe.data = .fields vs) (xd : XdOk x d H1) : CallR (X.suite a ((a, oe) :: pn)) (.builtin "isinstance") (rIsX X.K F0 H1 A a) := by
  intro pins s σ H xs us Q I r h
  obtain ⟨c, cv, b, ρ, σ0, F, rfl, hcv, e, sr, q⟩ := h
  cases r with
  | cons rx rr =>
    cases rr with
    | cons rt rr =>
      cases rr
      cases rx
      have ec := hcv _ rt
      subst ec
      have hcl : (PySem.W.clsIn X.K A).isSome = true := by
        have := T.hd
        unfold PySem.W.hasDictIn at this
        cases z : PySem.W.clsIn X.K A with
        | none => rw [z] at this; cases this
        | some _ => rfl
      obtain ⟨od, J⟩ := inst_of hz hf xd I sr
      exact PySem.W.kia_one (PySem.W.kitx_exc hcl T.hg T.hk T.hs T.ha T.hn T.ht T.hm) I.kIn J e (fun z => nomatch z) fun tk => ⟨.bl b, H, I.kept (t' := tk) fun _ _ z => z, rfl, q⟩
theorem de_isE {cX : Expr} {vc : V} (T : IsT X.K X.mg cv tab) (hz : Zc cls d oe) (hf : ∃ vs, oe.data = .fields vs) (hx : X.mg x.nm = some cls) (xd : XdOk x d H1) (hv : PE (X.suite a ((a, oe) :: pn)) (.Name n p1) (tVar i)) (hc : PE (X.suite a ((a, oe) :: pn)) cX (tC vc)) (hcv : ∀ u, RelV vc u → u = cv)
    (hg : Gl (X.suite a ((a, oe) :: pn)) "isinstance") (hm : X.mg "isinstance" = none)
    (h1 : starEach [cX] X.env = (false, eval cX X.env) :: starEach [] X.env := by rfl)
    (he : starEach [.Name n p1, cX] X.env = (false, eval (.Name n p1) X.env) :: starEach [cX] X.env := by rfl) (hpl : (backTo pos (starEach [cX] X.env)).any (·.1) = false := by rfl) :
    DE (X.suite a ((a, oe) :: pn)) F0 H1 WF (.Call (.Name "isinstance" p) [.Name n p1, cX] [] pos) (dIsE i a tab x) := by
  cases e2 : tab.lookup x.nm with
  | none =>
    refine ⟨fun pins s σ H Q I h => ?_⟩
    obtain ⟨_, ρ, F, sr, q⟩ := adr_run (show rd X.mg X.K F0 H1 WF (Den X.K) (onAdr i a _) σ H Q from h)
    rw [e2] at q
    exact q.elim
  | some b =>
    obtain ⟨A, hA, hE, hk⟩ := T x.nm b e2
    have hcls : cls = .ref A := by rw [hA] at hx; exact (Option.some.inj hx).symm
    subst hcls
    refine PE.imp (pe_callB (call_isX (F0 := F0) hE hz hf xd) hg hm (by decide +kernel) (pa_cons hv (pa_cons hc pa_nil h1) he) (by decide) (by decide) he hpl) fun σ H Q h => ?_
    obtain ⟨hs, ρ, F, sr, q⟩ := adr_run (show rd X.mg X.K F0 H1 WF (Den X.K) (onAdr i a _) σ H Q from h)
    rw [e2] at q
    exact ⟨.ref a, hs, vc, cv, b, ρ, σ, F, rfl, hcv, hk, sr, q (.bl b) H F (.refl sr.ex) (.bl b)⟩
theorem de_at {ats : List Str} (T : AtT X.K X.mg ats) (hz : Zc cls d oe) (hf : ∃ vs, oe.data = .fields vs) (hx : X.mg x.nm = some cls) (xd : XdOk x d H1) (hv : PE (X.suite a ((a, oe) :: pn)) (.Name n p1) (tVar i)) (hb : attributeBase (.Name n p1) "at" X.env (eval (.Name n p1) X.env) = eval (.Name n p1) X.env := by rfl) :
    DE (X.suite a ((a, oe) :: pn)) F0 H1 WF (.Attribute (.Name n p1) "at" pos) (dAt i a ats x) := by
  by_cases hm : x.nm ∈ ats
  · obtain ⟨A, hA, hX, hno⟩ := T x.nm hm
    have hcls : cls = .ref A := by rw [hA] at hx; exact (Option.some.inj hx).symm
    subst hcls
    refine PE.imp (pe_xf hX hno hz hf hv hb) fun σ H Q h => ?_
    obtain ⟨hs, ρ, F, sr, q⟩ := adr_run (show rd X.mg X.K F0 H1 WF (Den X.K) (onAdr i a _) σ H Q from h)
    rw [if_pos hm] at q
    refine ⟨.ref a, hs, rfl, rfl, ?_⟩
    cases e : x.fs.lookup ("at" : Str) with
    | none => rw [e] at q; exact q.elim
    | some v =>
      rw [e] at q
      rcases xd with ⟨h1, _⟩ | ⟨dd, hd, hH⟩
      · rw [h1] at e; cases e
      · refine ⟨dd, x.fs, v, hd, sr.gr.hh dd _ hH, e, ?_⟩
        cases v with
        | non => exact q .non H F (.refl sr.ex) .non
        | bl b => exact q (.bl b) H F (.refl sr.ex) (.bl b)
        | int n => exact q (.int n) H F (.refl sr.ex) (.int n)
        | str z => exact q (.str z) H F (.refl sr.ex) (.str z)
        | _ => exact q.elim
  · refine ⟨fun pins s σ H Q I h => ?_⟩
    obtain ⟨_, ρ, F, sr, q⟩ := adr_run (show rd X.mg X.K F0 H1 WF (Den X.K) (onAdr i a _) σ H Q from h)
    rw [if_neg hm] at q
    exact q.elim
end
/-! ### the classes' facts, as they are asked -/
def exTop (K : PySem.W.Frag) (C : Addr) : Bool := decide (PySem.W.findIn K (.ref C) "__getattribute__" = some (some (.builtin "BaseException.__getattribute__"))) && decide (PySem.W.findIn K (.ref C) "__getattr__" = some none) && decide (PySem.W.subIn K (.ref C) (.type "BaseException") = some true) && PySem.W.hasDictIn K C &&
  decide (PySem.W.findIn K (.ref C) "__class__" = some (some (.builtin "object.__class__"))) && decide (PySem.W.specialIn K (.builtin "object.__class__") "__get__" = some (some (.builtin "getset_descriptor.__get__"))) && decide (PySem.W.takesIn K (.builtin "object.__class__") = some true) && decide (PySem.W.mroIn K C (.type "object") = some true)
theorem exTop_c {K : PySem.W.Frag} {C : Addr} (h : exTop K C = true) : ExcC K C ∧ XfC K C := by
  simp only [exTop, Bool.and_eq_true, decide_eq_true_eq] at h
  obtain ⟨⟨⟨⟨⟨⟨⟨h1, h2⟩, h3⟩, h4⟩, h5⟩, h6⟩, h7⟩, h8⟩ := h
  exact ⟨⟨h1, h2, h3, h4, h5, h6, h7, h8⟩, ⟨h1, h2, h3, h4⟩⟩
end DL

/-! PB: how the plain functions of the walk are reckoned (simp lemmas), plain lemmas of lists, texts, numbers. -/
namespace DL
open PySem PySem.Spec PyProof.Rows L2

/-! ### statements -/
def Out.thn (o : Out) (g : Sls → Out) : Out := match o with
  | .nx ρ => g ρ
  | o => o
def Res.out {α : Type} (r : Res α) (k : α → Sls → Out) (ρ : Sls) : Out := match r with
  | .ok a => k a ρ
  | .exc x => .exc x ρ
  | .bad => .bad
section
variable {α : Type} (ρ : Sls) (g g1 g2 : Sls → Out) (d : PyData) (x : Xn) (k : α → Sls → Out) (i : Nat) (f : Sls → Res PyData) (fs : Sls → Res (List PyData)) (t : Sls → Res Bool)
@[simp] theorem thn_nx : (Out.nx ρ).thn g = g ρ := nd rfl
@[simp] theorem thn_rt : (Out.rt d).thn g = .rt d := nd rfl
@[simp] theorem thn_bk : (Out.bk ρ).thn g = .bk ρ := nd rfl
@[simp] theorem thn_ct : (Out.ct ρ).thn g = .ct ρ := nd rfl
@[simp] theorem thn_exc : (Out.exc x ρ).thn g = .exc x ρ := nd rfl
@[simp] theorem thn_bad : Out.bad.thn g = .bad := nd rfl
theorem thn_ite (c : Prop) [Decidable c] (a b : Out) : (if c then a else b).thn g = if c then a.thn g else b.thn g := by split <;> rfl
@[simp] theorem out_ok (a : α) : (Res.ok a).out k ρ = k a ρ := nd rfl
@[simp] theorem out_exc : (Res.exc x : Res α).out k ρ = .exc x ρ := nd rfl
@[simp] theorem out_bad : (Res.bad : Res α).out k ρ = .bad := nd rfl
@[simp] theorem gSeq_is : gSeq g1 g2 ρ = (g1 ρ).thn g2 := by unfold gSeq Out.thn; cases g1 ρ <;> rfl
theorem sE_is (r : Sls → Res α) : sE r k ρ = (r ρ).out k ρ := by unfold sE Res.out; cases r ρ <;> rfl
@[simp] theorem gIf_is : gIf t g1 g2 ρ = (t ρ).out (fun b ρ => if b = true then g1 ρ else g2 ρ) ρ := sE_is ..
@[simp] theorem gSet_is : gSet i f ρ = (f ρ).out (fun d ρ => .nx (ρ.set i (.val d))) ρ := sE_is ..
@[simp] theorem gSetN_is : gSetN i fs ρ = (fs ρ).out (fun ds ρ => .nx (ρ.set i (.own ds))) ρ := sE_is ..
@[simp] theorem gRet_is : gRet f ρ = (f ρ).out (fun d _ => .rt d) ρ := sE_is ..
@[simp] theorem gDrop_is : gDrop f ρ = (f ρ).out (fun _ ρ => .nx ρ) ρ := sE_is ..
@[simp] theorem gNext_is : gNext ρ = .nx ρ := nd rfl
@[simp] theorem gFor_is (bt : PyData → Sls → Option Sls) : gFor fs bt g ρ = (fs ρ).out (fun ds ρ => forL bt g ds ρ) ρ := sE_is ..
@[simp] theorem gWhile_is (n : Sls → Nat) : gWhile n t g ρ = whileN t g (n ρ) ρ := nd rfl
@[simp] theorem gBefore_is : gBefore i g ρ = g (frz i ρ) := nd rfl
@[simp] theorem gAsg_is (bt : PyData → Sls → Option Sls) : gAsg f bt ρ = (f ρ).out (fun d ρ => match bt d ρ with | some ρ' => .nx ρ' | none => .bad) ρ := sE_is ..
@[simp] theorem outR_rt : outR (.rt d) = .ok d := nd rfl
@[simp] theorem outR_nx : outR (.nx ρ) = .ok .none := nd rfl
@[simp] theorem outR_exc : outR (.exc x ρ) = .exc x := nd rfl
@[simp] theorem outR_bad : outR .bad = .bad := nd rfl
theorem out_ite (c : Prop) [Decidable c] (a b : Res α) : (if c then a else b).out k ρ = if c then a.out k ρ else b.out k ρ := by split <;> rfl

/-! ### expressions -/
@[simp] theorem dNil_is : dNil ρ = .ok [] := nd rfl
@[simp] theorem dCons_is : dCons f fs ρ = (f ρ >>= fun x => fs ρ >>= fun xs => .ok (x :: xs)) := nd rfl
@[simp] theorem d1_is (o : PyData → Option PyData) : d1 o f ρ = (f ρ >>= fun x => ofO (o x)) := nd rfl
@[simp] theorem d2_is (o : PyData → PyData → Option PyData) (f2 : Sls → Res PyData) : d2 o f f2 ρ = (f ρ >>= fun x => f2 ρ >>= fun y => ofO (o x y)) := nd rfl
@[simp] theorem dL_is (o : List PyData → Option PyData) : dL o fs ρ = (fs ρ >>= fun x => ofO (o x)) := nd rfl
@[simp] theorem dB_is : dB f ρ = (f ρ >>= fun d => ofO (asB d)) := nd rfl
@[simp] theorem dTru_is : dTru f ρ = (f ρ >>= fun d => ofO (truD d)) := nd rfl
@[simp] theorem dNot_is : dNot t ρ = (t ρ >>= fun b => .ok (!b)) := nd rfl
@[simp] theorem dAnd_is (t2 : Sls → Res Bool) : dAnd t t2 ρ = (t ρ >>= fun b => if b = true then t2 ρ else .ok false) := nd rfl
@[simp] theorem dOr_is (t2 : Sls → Res Bool) : dOr t t2 ρ = (t ρ >>= fun b => if b = true then .ok true else t2 ρ) := nd rfl
@[simp] theorem dIf_is (f2 : Sls → Res PyData) : dIf t f f2 ρ = (t ρ >>= fun b => if b = true then f ρ else f2 ρ) := nd rfl
@[simp] theorem dAndV_is (f2 : Sls → Res PyData) : dAndV f f2 ρ = (f ρ >>= fun d => ofO (truD d) >>= fun b => if b = true then f2 ρ else .ok d) := nd rfl
@[simp] theorem dOrV_is (f2 : Sls → Res PyData) : dOrV f f2 ρ = (f ρ >>= fun d => ofO (truD d) >>= fun b => if b = true then .ok d else f2 ρ) := nd rfl
@[simp] theorem dChain_is (o o' : PyData → PyData → Option PyData) (f2 f3 : Sls → Res PyData) : dChain o o' f f2 f3 ρ = (f ρ >>= fun x => f2 ρ >>= fun y => ofO ((o x y).bind asB) >>= fun k => if k = true then f3 ρ >>= fun z => ofO (o' y z) else .ok (.bool false)) := nd rfl
@[simp] theorem dSl_is (o : PyData → Option Int → Option Int → Option PyData) (l u : Sls → Res (Option Int)) : dSl o f l u ρ = (f ρ >>= fun x => l ρ >>= fun i => u ρ >>= fun j => ofO (o x i j)) := nd rfl
@[simp] theorem dPart_is : dPart f ρ = (f ρ >>= fun d => ofO ((asI d).map some)) := nd rfl
@[simp] theorem dFr_is : dFr fs ρ = (fs ρ >>= fun ds => .ok (.list ds)) := nd rfl
@[simp] theorem dDisp_is : dDisp fs ρ = (fs ρ >>= fun ds => if ds.length ≤ 1000 then .ok ds else .bad) := nd rfl
@[simp] theorem dNL_list (xs : List PyData) (h : fs ρ = .ok [.list xs]) : dNL fs ρ = .ok xs := by unfold dNL; rw [h]; rfl
@[simp] theorem dNL_tuple (xs : List PyData) (h : fs ρ = .ok [.tuple xs]) : dNL fs ρ = .ok xs := by unfold dNL; rw [h]; rfl
@[simp] theorem dCall_is (Fn : List PyData → Res PyData) : dCall Fn fs ρ = (fs ρ >>= Fn) := nd rfl
@[simp] theorem dItems_is : dItems f ρ = (f ρ >>= fun d => ofO (itemsOf d)) := nd rfl
@[simp] theorem dRng_is (o : List PyData → Option (List PyData)) : dRng o fs ρ = (fs ρ >>= fun ds => ofO (o ds)) := nd rfl
@[simp] theorem dLc_is (bt : PyData → Sls → Option Sls) (vs : List Nat) : dLc fs bt t f vs ρ = (fs ρ >>= fun ds => if ds.length ≤ 16777216 then compL bt t f (wipeS ρ vs) ds else .bad) := nd rfl
@[simp] theorem tYesD_is : tYesD ρ = .ok true := nd rfl
@[simp] theorem bName_is : bName i d ρ = some (ρ.set i (.val d)) := nd rfl
@[simp] theorem wipeS_nil : wipeS ρ [] = ρ := nd rfl
@[simp] theorem wipeS_cons (v : Nat) (vs : List Nat) : wipeS ρ (v :: vs) = (wipeS ρ vs).set v .un := nd rfl
@[simp] theorem dVar_zero : dVar 0 (.val d :: ρ) = .ok d := nd rfl
@[simp] theorem dVar_succ (s : Sl) : dVar (i + 1) (s :: ρ) = dVar i ρ := nd rfl
theorem dM_str (o : PyData → List PyData → Option PyData) (z : Str) (h : f ρ = .ok (.str z)) : dM o f fs ρ = (fs ρ >>= fun xs => ofO (o (.str z) xs)) := by unfold dM; rw [h]; rfl
end
@[simp] theorem asB_bool (b : Bool) : asB (.bool b) = some b := nd rfl
@[simp] theorem asI_int (i : Int) : asI (.int i) = some i := nd rfl
@[simp] theorem truD_bool (b : Bool) : truD (.bool b) = some b := nd rfl
@[simp] theorem truD_none : truD .none = some false := nd rfl
@[simp] theorem truD_int (i : Int) : truD (.int i) = some (i != 0) := nd rfl
@[simp] theorem truD_list (xs : List PyData) : truD (.list xs) = some (!xs.isEmpty) := nd rfl
@[simp] theorem truD_tuple (xs : List PyData) : truD (.tuple xs) = some (!xs.isEmpty) := nd rfl
@[simp] theorem truD_str (z : Str) : truD (.str z) = if z.length ≤ 16777216 then some ((z.length : Int) != 0) else none := nd rfl
@[simp] theorem notD_bool (b : Bool) : notD (.bool b) = some (.bool (!b)) := nd rfl
@[simp] theorem addD_int (i j : Int) : addD (.int i) (.int j) = some (.int (i + j)) := nd rfl
@[simp] theorem addD_str (x y : Str) : addD (.str x) (.str y) = if x.length + y.length ≤ 16777216 then some (.str (x ++ y)) else none := nd rfl
@[simp] theorem addD_list (x y : List PyData) : addD (.list x) (.list y) = if x.length + y.length ≤ 16777216 then some (.list (x ++ y)) else none := nd rfl
@[simp] theorem addD_tuple (x y : List PyData) : addD (.tuple x) (.tuple y) = if x.length + y.length ≤ 16777216 then some (.tuple (x ++ y)) else none := nd rfl
@[simp] theorem subD_int (i j : Int) : subD (.int i) (.int j) = some (.int (i - j)) := nd rfl
theorem mulD_int (i j : Int) : mulD (.int i) (.int j) = if mulOk i j = true then some (.int (i * j)) else none := nd rfl
theorem mulOk_r {i j : Int} (h1 : -(2 ^ 64) < j) (h2 : j < 2 ^ 64) : mulOk i j = true := by unfold mulOk; rw [decide_eq_true_eq]; exact .inl (.inr ⟨h1, h2⟩)
theorem mulOk_l {i j : Int} (h1 : -(2 ^ 64) < i) (h2 : i < 2 ^ 64) : mulOk i j = true := by unfold mulOk; rw [decide_eq_true_eq]; exact .inl (.inl ⟨h1, h2⟩)
/-- a product by a small number -/
theorem mulD_r (i j : Int) (h : (decide (-(2 ^ 64) < j) && decide (j < 2 ^ 64)) = true) : mulD (.int i) (.int j) = some (.int (i * j)) := by
  rw [Bool.and_eq_true, decide_eq_true_eq, decide_eq_true_eq] at h
  rw [mulD_int, if_pos (mulOk_r h.1 h.2)]
theorem mulD_l (i j : Int) (h : (decide (-(2 ^ 64) < i) && decide (i < 2 ^ 64)) = true) : mulD (.int i) (.int j) = some (.int (i * j)) := by
  rw [Bool.and_eq_true, decide_eq_true_eq, decide_eq_true_eq] at h
  rw [mulD_int, if_pos (mulOk_l h.1 h.2)]
theorem fdivD_int (i j : Int) : fdivD (.int i) (.int j) = if divOk j = true then some (.int (i.fdiv j)) else none := nd rfl
/-- by a number of less than 65 bits -/
@[simp] theorem mulD_sr (i j : Int) (h1 : -18446744073709551616 < j) (h2 : j < 18446744073709551616) : mulD (.int i) (.int j) = some (.int (i * j)) := by
  rw [mulD_int, if_pos (mulOk_r (by omega) (by omega))]
@[simp] theorem mulD_sl (i j : Int) (h1 : -18446744073709551616 < i) (h2 : i < 18446744073709551616) : mulD (.int i) (.int j) = some (.int (i * j)) := by
  rw [mulD_int, if_pos (mulOk_l (by omega) (by omega))]
theorem log2_small {n : Nat} (h : n < 18446744073709551616) : n.log2 < 9000 := by
  by_cases h0 : n = 0
  · subst h0; decide
  · have : n.log2 < 64 := (Nat.log2_lt h0).mpr (by omega)
    omega
theorem divOk_s {j : Int} (h1 : 0 < j) (h2 : j < 18446744073709551616) : divOk j = true := by
  unfold divOk
  rw [decide_eq_true_eq]
  exact ⟨by omega, log2_small (by omega)⟩
@[simp] theorem fdivD_s (i j : Int) (h1 : 0 < j) (h2 : j < 18446744073709551616) : fdivD (.int i) (.int j) = some (.int (i.fdiv j)) := by
  rw [fdivD_int, if_pos (divOk_s h1 h2)]
@[simp] theorem modD_int (i j : Int) : modD (.int i) (.int j) = if j = 0 then none else some (.int (i.fmod j)) := nd rfl
theorem powD_int (i j : Int) : powD (.int i) (.int j) = if 0 ≤ j ∧ j ≤ 1000000 ∧ i.natAbs < 2 ^ 64 then some (.int (i ^ j.toNat)) else none := nd rfl
theorem powD_of {i j v : Int} (h : (decide (0 ≤ j ∧ j ≤ 1000000 ∧ i.natAbs < 2 ^ 64) && decide (i ^ j.toNat = v)) = true) : powD (.int i) (.int j) = some (.int v) := by
  rw [Bool.and_eq_true, decide_eq_true_eq, decide_eq_true_eq] at h
  rw [powD_int, if_pos h.1, h.2]
@[simp] theorem powD_10_1 : powD (.int 10) (.int 1) = some (.int 10) := powD_of (by decide +kernel)
@[simp] theorem powD_10_2 : powD (.int 10) (.int 2) = some (.int 100) := powD_of (by decide +kernel)
@[simp] theorem powD_10_3 : powD (.int 10) (.int 3) = some (.int 1000) := powD_of (by decide +kernel)
@[simp] theorem powD_10_4 : powD (.int 10) (.int 4) = some (.int 10000) := powD_of (by decide +kernel)
@[simp] theorem powD_10_5 : powD (.int 10) (.int 5) = some (.int 100000) := powD_of (by decide +kernel)
@[simp] theorem powD_10_6 : powD (.int 10) (.int 6) = some (.int 1000000) := powD_of (by decide +kernel)
@[simp] theorem powD_10_7 : powD (.int 10) (.int 7) = some (.int 10000000) := powD_of (by decide +kernel)
@[simp] theorem powD_10_8 : powD (.int 10) (.int 8) = some (.int 100000000) := powD_of (by decide +kernel)
@[simp] theorem powD_10_9 : powD (.int 10) (.int 9) = some (.int 1000000000) := powD_of (by decide +kernel)
@[simp] theorem powD_10_10 : powD (.int 10) (.int 10) = some (.int 10000000000) := powD_of (by decide +kernel)
@[simp] theorem powD_10_11 : powD (.int 10) (.int 11) = some (.int 100000000000) := powD_of (by decide +kernel)
@[simp] theorem powD_10_12 : powD (.int 10) (.int 12) = some (.int 1000000000000) := powD_of (by decide +kernel)
@[simp] theorem powD_10_13 : powD (.int 10) (.int 13) = some (.int 10000000000000) := powD_of (by decide +kernel)
@[simp] theorem powD_10_14 : powD (.int 10) (.int 14) = some (.int 100000000000000) := powD_of (by decide +kernel)
@[simp] theorem powD_10_15 : powD (.int 10) (.int 15) = some (.int 1000000000000000) := powD_of (by decide +kernel)
@[simp] theorem powD_10_16 : powD (.int 10) (.int 16) = some (.int 10000000000000000) := powD_of (by decide +kernel)
@[simp] theorem powD_10_17 : powD (.int 10) (.int 17) = some (.int 100000000000000000) := powD_of (by decide +kernel)
@[simp] theorem powD_10_18 : powD (.int 10) (.int 18) = some (.int 1000000000000000000) := powD_of (by decide +kernel)
@[simp] theorem powD_10_19 : powD (.int 10) (.int 19) = some (.int 10000000000000000000) := powD_of (by decide +kernel)
@[simp] theorem powD_10_20 : powD (.int 10) (.int 20) = some (.int 100000000000000000000) := powD_of (by decide +kernel)
@[simp] theorem powD_10_21 : powD (.int 10) (.int 21) = some (.int 1000000000000000000000) := powD_of (by decide +kernel)
@[simp] theorem powD_10_22 : powD (.int 10) (.int 22) = some (.int 10000000000000000000000) := powD_of (by decide +kernel)
@[simp] theorem powD_10_23 : powD (.int 10) (.int 23) = some (.int 100000000000000000000000) := powD_of (by decide +kernel)
@[simp] theorem powD_10_24 : powD (.int 10) (.int 24) = some (.int 1000000000000000000000000) := powD_of (by decide +kernel)
@[simp] theorem powD_10_25 : powD (.int 10) (.int 25) = some (.int 10000000000000000000000000) := powD_of (by decide +kernel)
@[simp] theorem powD_10_26 : powD (.int 10) (.int 26) = some (.int 100000000000000000000000000) := powD_of (by decide +kernel)
@[simp] theorem powD_10_27 : powD (.int 10) (.int 27) = some (.int 1000000000000000000000000000) := powD_of (by decide +kernel)
@[simp] theorem powD_10_28 : powD (.int 10) (.int 28) = some (.int 10000000000000000000000000000) := powD_of (by decide +kernel)
@[simp] theorem powD_10_29 : powD (.int 10) (.int 29) = some (.int 100000000000000000000000000000) := powD_of (by decide +kernel)
@[simp] theorem powD_10_30 : powD (.int 10) (.int 30) = some (.int 1000000000000000000000000000000) := powD_of (by decide +kernel)
@[simp] theorem negD_int (i : Int) : negD (.int i) = some (.int (-i)) := nd rfl
@[simp] theorem ltD_int (i j : Int) : ltD (.int i) (.int j) = some (.bool (decide (i < j))) := nd rfl
@[simp] theorem ltV_int (i j : Int) : ltV (.int i) (.int j) = some (.bool (decide (i < j))) := by
  simp [ltV, noDic, PyData.depth, lessD]
@[simp] theorem ltV_str (x y : Str) : ltV (.str x) (.str y) = some (.bool (decide (x.cps.toList < y.cps.toList))) := by
  simp [ltV, noDic, PyData.depth, lessD]
@[simp] theorem ltV_bool (x y : Bool) : ltV (.bool x) (.bool y) = some (.bool (decide (b2i x < b2i y))) := by
  simp [ltV, noDic, PyData.depth, lessD]
@[simp] theorem gtV_int (i j : Int) : gtV (.int i) (.int j) = some (.bool (decide (j < i))) := by
  simp [gtV, noDic, PyData.depth, moreD]
@[simp] theorem gtV_str (x y : Str) : gtV (.str x) (.str y) = some (.bool (decide (y.cps.toList < x.cps.toList))) := by
  simp [gtV, noDic, PyData.depth, moreD]
@[simp] theorem gtV_bool (x y : Bool) : gtV (.bool x) (.bool y) = some (.bool (decide (b2i y < b2i x))) := by
  simp [gtV, noDic, PyData.depth, moreD]
@[simp] theorem ltD_bool (x y : Bool) : ltD (.bool x) (.bool y) = some (.bool (decide (b2i x < b2i y))) := nd rfl
@[simp] theorem leD_bool (x y : Bool) : leD (.bool x) (.bool y) = some (.bool (decide (b2i x ≤ b2i y))) := nd rfl
@[simp] theorem gtD_bool (x y : Bool) : gtD (.bool x) (.bool y) = some (.bool (decide (b2i y < b2i x))) := nd rfl
@[simp] theorem geD_bool (x y : Bool) : geD (.bool x) (.bool y) = some (.bool (decide (b2i y ≤ b2i x))) := nd rfl
@[simp] theorem leD_int (i j : Int) : leD (.int i) (.int j) = some (.bool (decide (i ≤ j))) := nd rfl
@[simp] theorem gtD_int (i j : Int) : gtD (.int i) (.int j) = some (.bool (decide (j < i))) := nd rfl
@[simp] theorem geD_int (i j : Int) : geD (.int i) (.int j) = some (.bool (decide (j ≤ i))) := nd rfl
@[simp] theorem ltD_str (x y : Str) : ltD (.str x) (.str y) = some (.bool (decide (x.cps.toList < y.cps.toList))) := nd rfl
@[simp] theorem leD_str (x y : Str) : leD (.str x) (.str y) = some (.bool (!decide (y.cps.toList < x.cps.toList))) := nd rfl
@[simp] theorem gtD_str (x y : Str) : gtD (.str x) (.str y) = some (.bool (decide (y.cps.toList < x.cps.toList))) := nd rfl
@[simp] theorem geD_str (x y : Str) : geD (.str x) (.str y) = some (.bool (!decide (x.cps.toList < y.cps.toList))) := nd rfl
theorem beq_dec {α : Type} [BEq α] [LawfulBEq α] [DecidableEq α] (i j : α) : (i == j) = decide (i = j) := Bool.eq_iff_iff.mpr (by simp)
@[simp] theorem eqD_int (i j : Int) : eqD (.int i) (.int j) = some (.bool (decide (i = j))) := by
  simp [eqD, eqOk, scalD, PyData.eqv]
  exact beq_dec i j
@[simp] theorem eqD_str (i j : Str) : eqD (.str i) (.str j) = some (.bool (decide (i = j))) := by
  simp [eqD, eqOk, scalD, PyData.eqv]
  exact beq_dec i j
@[simp] theorem eqD_bool (i j : Bool) : eqD (.bool i) (.bool j) = some (.bool (decide (i = j))) := by
  simp [eqD, eqOk, scalD, PyData.eqv]
  exact beq_dec i j
@[simp] theorem neD_int (i j : Int) : neD (.int i) (.int j) = some (.bool (!decide (i = j))) := by
  simp [neD, eqOk, scalD, PyData.eqv]
  exact beq_dec i j
@[simp] theorem neD_str (i j : Str) : neD (.str i) (.str j) = some (.bool (!decide (i = j))) := by
  simp [neD, eqOk, scalD, PyData.eqv]
  exact beq_dec i j
@[simp] theorem neD_bool (i j : Bool) : neD (.bool i) (.bool j) = some (.bool (!decide (i = j))) := by
  simp [neD, eqOk, scalD, PyData.eqv]
  exact beq_dec i j
@[simp] theorem isD_none : isD .none .none = some (.bool true) := nd rfl
@[simp] theorem isD_bool (b : Bool) : isD (.bool b) .none = some (.bool false) := nd rfl
@[simp] theorem isD_int (b : Int) : isD (.int b) .none = some (.bool false) := nd rfl
@[simp] theorem isD_str (b : Str) : isD (.str b) .none = some (.bool false) := nd rfl
@[simp] theorem isD_list (b : List PyData) : isD (.list b) .none = some (.bool false) := nd rfl
@[simp] theorem isD_tuple (b : List PyData) : isD (.tuple b) .none = some (.bool false) := nd rfl
@[simp] theorem isD_dict (b : List (PyData × PyData)) : isD (.dict b) .none = some (.bool false) := nd rfl
@[simp] theorem isNotD_none : isNotD .none .none = some (.bool false) := nd rfl
@[simp] theorem isNotD_bool (b : Bool) : isNotD (.bool b) .none = some (.bool true) := nd rfl
@[simp] theorem isNotD_int (b : Int) : isNotD (.int b) .none = some (.bool true) := nd rfl
@[simp] theorem isNotD_str (b : Str) : isNotD (.str b) .none = some (.bool true) := nd rfl
@[simp] theorem isNotD_list (b : List PyData) : isNotD (.list b) .none = some (.bool true) := nd rfl
@[simp] theorem isNotD_tuple (b : List PyData) : isNotD (.tuple b) .none = some (.bool true) := nd rfl
@[simp] theorem isNotD_dict (b : List (PyData × PyData)) : isNotD (.dict b) .none = some (.bool true) := nd rfl
@[simp] theorem lenD_list (ds : List PyData) : lenD [.list ds] = some (.int ds.length) := nd rfl
@[simp] theorem lenD_tuple (ds : List PyData) : lenD [.tuple ds] = some (.int ds.length) := nd rfl
@[simp] theorem lenD_str (z : Str) : lenD [.str z] = if z.length ≤ 16777216 then some (.int z.length) else none := nd rfl
@[simp] theorem absD_int (i : Int) : absD [.int i] = some (.int (if i < 0 then -i else i)) := nd rfl
@[simp] theorem intD_int (i : Int) : intD [.int i] = some (.int i) := nd rfl
@[simp] theorem intD_bool (b : Bool) : intD [.bool b] = some (.int (if b = true then 1 else 0)) := nd rfl
theorem ordD_one (c : Nat) : ordD [.str ⟨#[c]⟩] = some (.int c) := nd rfl
@[simp] theorem maxD_int (i j : Int) : maxD [.int i, .int j] = some (.int (if j > i then j else i)) := nd rfl
@[simp] theorem minD_int (i j : Int) : minD [.int i, .int j] = some (.int (if j < i then j else i)) := nd rfl
@[simp] theorem max2D_int (i j : Int) : max2D [.int i, .int j] = some (.int (if j > i then j else i)) := nd rfl
@[simp] theorem min2D_int (i j : Int) : min2D [.int i, .int j] = some (.int (if j < i then j else i)) := nd rfl
@[simp] theorem max2D_str (x y : Str) : max2D [.str x, .str y] = some (.str (if x.cps.toList < y.cps.toList then y else x)) := nd rfl
@[simp] theorem min2D_str (x y : Str) : min2D [.str x, .str y] = some (.str (if y.cps.toList < x.cps.toList then y else x)) := nd rfl
@[simp] theorem max2D_bool (x y : Bool) : max2D [.bool x, .bool y] = some (.bool (x || y)) := nd rfl
@[simp] theorem min2D_bool (x y : Bool) : min2D [.bool x, .bool y] = some (.bool (x && y)) := nd rfl
@[simp] theorem tupleD_list (ds : List PyData) : tupleD [.list ds] = some (.tuple ds) := nd rfl
@[simp] theorem tupleD_tuple (ds : List PyData) : tupleD [.tuple ds] = some (.tuple ds) := nd rfl
@[simp] theorem listD_list (ds : List PyData) : listD [.list ds] = some (.list ds) := nd rfl
@[simp] theorem listD_tuple (ds : List PyData) : listD [.tuple ds] = some (.list ds) := nd rfl
@[simp] theorem tupD_is (ds : List PyData) : tupD ds = if ds.length ≤ 1000 then some (.tuple ds) else none := nd rfl
@[simp] theorem itemsOf_list (ds : List PyData) : itemsOf (.list ds) = some ds := nd rfl
@[simp] theorem itemsOf_tuple (ds : List PyData) : itemsOf (.tuple ds) = some ds := nd rfl
@[simp] theorem itemsOf_str (z : Str) : itemsOf (.str z) = some (signsD z) := nd rfl
@[simp] theorem ixD_list (ds : List PyData) (i : Int) : ixD (.list ds) (.int i) = atI ds i := nd rfl
@[simp] theorem ixD_tuple (ds : List PyData) (i : Int) : ixD (.tuple ds) (.int i) = atI ds i := nd rfl
theorem ixD_str (z : Str) (i : Int) : ixD (.str z) (.int i) = if z.length ≤ 16777216 then (atI z.cps.toList i).map fun c => .str ⟨#[c]⟩ else none := nd rfl
@[simp] theorem slD_list (ds : List PyData) (i j : Option Int) : slD (.list ds) i j = some (.list (cutD ds i j)) := nd rfl
@[simp] theorem slD_tuple (ds : List PyData) (i j : Option Int) : slD (.tuple ds) i j = some (.tuple (cutD ds i j)) := nd rfl
@[simp] theorem slD_str (z : Str) (i j : Option Int) : slD (.str z) i j = if z.length ≤ 16777216 then some (.str (cutS z i j)) else none := nd rfl
@[simp] theorem isi1_is (g : PyData → Bool) (d : PyData) : isi1 g d = some (.bool (g d)) := nd rfl
@[simp] theorem isi2_is (g g' : PyData → Bool) (d : PyData) : isi2 g g' d = some (.bool (g d || g' d)) := nd rfl
section
variable (b : Bool) (i : Int) (z : Str) (l : List PyData) (kv : List (PyData × PyData))
@[simp] theorem isInt1 : isInt .none = false := nd rfl
@[simp] theorem isInt2 : isInt (.bool b) = true := nd rfl
@[simp] theorem isInt3 : isInt (.int i) = true := nd rfl
@[simp] theorem isInt4 : isInt (.str z) = false := nd rfl
@[simp] theorem isInt5 : isInt (.list l) = false := nd rfl
@[simp] theorem isInt6 : isInt (.tuple l) = false := nd rfl
@[simp] theorem isInt7 : isInt (.dict kv) = false := nd rfl
@[simp] theorem isBool1 : isBool .none = false := nd rfl
@[simp] theorem isBool2 : isBool (.bool b) = true := nd rfl
@[simp] theorem isBool3 : isBool (.int i) = false := nd rfl
@[simp] theorem isBool4 : isBool (.str z) = false := nd rfl
@[simp] theorem isBool5 : isBool (.list l) = false := nd rfl
@[simp] theorem isBool6 : isBool (.tuple l) = false := nd rfl
@[simp] theorem isBool7 : isBool (.dict kv) = false := nd rfl
@[simp] theorem isStr1 : isStr .none = false := nd rfl
@[simp] theorem isStr2 : isStr (.bool b) = false := nd rfl
@[simp] theorem isStr3 : isStr (.int i) = false := nd rfl
@[simp] theorem isStr4 : isStr (.str z) = true := nd rfl
@[simp] theorem isStr5 : isStr (.list l) = false := nd rfl
@[simp] theorem isStr6 : isStr (.tuple l) = false := nd rfl
@[simp] theorem isStr7 : isStr (.dict kv) = false := nd rfl
@[simp] theorem isList1 : isList .none = false := nd rfl
@[simp] theorem isList2 : isList (.bool b) = false := nd rfl
@[simp] theorem isList3 : isList (.int i) = false := nd rfl
@[simp] theorem isList4 : isList (.str z) = false := nd rfl
@[simp] theorem isList5 : isList (.list l) = true := nd rfl
@[simp] theorem isList6 : isList (.tuple l) = false := nd rfl
@[simp] theorem isList7 : isList (.dict kv) = false := nd rfl
@[simp] theorem isTuple1 : isTuple .none = false := nd rfl
@[simp] theorem isTuple2 : isTuple (.bool b) = false := nd rfl
@[simp] theorem isTuple3 : isTuple (.int i) = false := nd rfl
@[simp] theorem isTuple4 : isTuple (.str z) = false := nd rfl
@[simp] theorem isTuple5 : isTuple (.list l) = false := nd rfl
@[simp] theorem isTuple6 : isTuple (.tuple l) = true := nd rfl
@[simp] theorem isTuple7 : isTuple (.dict kv) = false := nd rfl
end

/-! ### loops -/
section
variable (bt : PyData → Sls → Option Sls) (g : Sls → Out) (d : PyData) (ds : List PyData) (ρ : Sls) (t : Sls → Res Bool) (f : Sls → Res PyData)
@[simp] theorem forL_nil : forL bt g [] ρ = .nx ρ := nd rfl
/-- a turn is done -/
def Out.turn (o : Out) (k : Sls → Out) : Out := match o with
  | .nx ρ2 => k ρ2
  | .ct ρ2 => k ρ2
  | .bk ρ2 => .nx ρ2
  | .rt d => .rt d
  | .exc x ρ2 => .exc x ρ2
  | .bad => .bad
@[simp] theorem turn_nx (k : Sls → Out) : (Out.nx ρ).turn k = k ρ := nd rfl
@[simp] theorem turn_ct (k : Sls → Out) : (Out.ct ρ).turn k = k ρ := nd rfl
@[simp] theorem turn_bk (k : Sls → Out) : (Out.bk ρ).turn k = .nx ρ := nd rfl
@[simp] theorem turn_rt (k : Sls → Out) : (Out.rt d).turn k = .rt d := nd rfl
@[simp] theorem turn_bad (k : Sls → Out) : Out.bad.turn k = .bad := nd rfl
theorem forL_name (i : Nat) : forL (bName i) g (d :: ds) ρ = (g (ρ.set i (.val d))).turn (forL (bName i) g ds) := by
  simp only [forL, bName]
  cases g (ρ.set i (.val d)) <;> rfl
theorem forL_cons {ρ1 : Sls} (h : bt d ρ = some ρ1) : forL bt g (d :: ds) ρ = (g ρ1).turn (forL bt g ds) := by
  simp only [forL, h]
  cases g ρ1 <;> rfl
@[simp] theorem compL_nil : compL bt t f ρ [] = .ok [] := nd rfl
theorem compL_name (i : Nat) (h : t (ρ.set i (.val d)) = .ok true) {y : PyData} (hy : f (ρ.set i (.val d)) = .ok y) {ys : List PyData} (hr : compL (bName i) t f ρ ds = .ok ys) : compL (bName i) t f ρ (d :: ds) = .ok (y :: ys) := by
  simp only [compL, bName, h, hy, hr, bind_ok]
theorem compL_skip (i : Nat) (h : t (ρ.set i (.val d)) = .ok false) : compL (bName i) t f ρ (d :: ds) = compL (bName i) t f ρ ds := by
  simp only [compL, bName, h]
/-- a comprehension without a test, by a property of what each place gives -/
theorem compL_all (i : Nat) {P : PyData → Prop} : ∀ (ds : List PyData) (h : ∀ d ∈ ds, ∃ y, f (ρ.set i (.val d)) = .ok y ∧ P y), ∃ ys, compL (bName i) tYesD f ρ ds = .ok ys ∧ ys.length = ds.length ∧ ∀ y ∈ ys, P y
  | [], _ => ⟨[], rfl, rfl, fun y h => by cases h⟩
  | d :: ds, h => by
    obtain ⟨y, h1, h2⟩ := h d List.mem_cons_self
    obtain ⟨ys, h3, h4, h5⟩ := compL_all i ds fun d' hd => h d' (List.mem_cons_of_mem _ hd)
    exact ⟨y :: ys, compL_name _ _ _ _ _ i rfl h1 h3, by rw [List.length_cons, List.length_cons, h4], fun z hz => by
      rcases List.mem_cons.mp hz with rfl | hz
      · exact h2
      · exact h5 z hz⟩
/-- a comprehension without a test is a map -/
theorem compL_map (i : Nat) {φ : PyData → PyData} : ∀ (ds : List PyData) (h : ∀ d ∈ ds, f (ρ.set i (.val d)) = .ok (φ d)), compL (bName i) tYesD f ρ ds = .ok (ds.map φ)
  | [], _ => rfl
  | d :: ds, h => compL_name _ _ _ _ _ i rfl (h d List.mem_cons_self) (compL_map i ds fun d' hd => h d' (List.mem_cons_of_mem _ hd))
end
theorem rangeD_zero (lo : Int) : rangeD lo 0 = [] := nd rfl
theorem rangeD_succ (lo : Int) (n : Nat) : rangeD lo (n + 1) = .int lo :: rangeD (lo + 1) n := by
  unfold rangeD
  rw [List.range_succ_eq_map, List.map_cons, List.map_map]
  have h : ∀ i : Nat, (PyData.int (lo + ((i + 1 : Nat) : Int))) = PyData.int (lo + 1 + (i : Nat)) := fun i => by congr 1; omega
  simp only [Function.comp_def, Nat.succ_eq_add_one, h]
  congr 2
  omega
theorem rangeD_length (lo : Int) (n : Nat) : (rangeD lo n).length = n := by unfold rangeD; simp
theorem rangeD_mem {lo : Int} {n : Nat} {d : PyData} (h : d ∈ rangeD lo n) : ∃ j : Nat, j < n ∧ d = .int (lo + j) := by
  unfold rangeD at h
  obtain ⟨j, h1, h2⟩ := List.mem_map.mp h
  exact ⟨j, List.mem_range.mp h1, h2.symm⟩
theorem rangeD_mem0 {n : Nat} {d : PyData} (h : d ∈ rangeD 0 n) : ∃ j : Nat, j < n ∧ d = .int j := by
  obtain ⟨j, h1, h2⟩ := rangeD_mem h
  exact ⟨j, h1, by rw [h2, Int.zero_add]⟩
theorem rng1_is (n : Int) (h1 : -(2 ^ 62) ≤ n) (h : n < 2 ^ 62) : rng1 [.int n] = some (rangeD 0 n.toNat) := by
  show (if -(2 ^ 62) ≤ n ∧ n < 2 ^ 62 then some (rangeD 0 n.toNat) else none) = _
  rw [if_pos ⟨h1, h⟩]
theorem rng1_nat (n : Nat) (h : n < 2 ^ 62) : rng1 [.int (n : Int)] = some (rangeD 0 n) := by
  rw [rng1_is _ (by omega) (by omega), Int.toNat_natCast]

/-! ### places -/
theorem atI_nat {α : Type} (xs : List α) (k : Nat) : atI xs (k : Int) = xs[k]? := by
  unfold atI ixN
  rw [if_pos (by omega)]
  by_cases h : k < xs.length
  · rw [if_pos (by omega)]
    simp
  · rw [if_neg (by omega)]
    simp only [Option.bind_none]
    rw [List.getElem?_eq_none (by omega)]
theorem atI_of {α : Type} {xs : List α} {i : Int} (h0 : 0 ≤ i) (h1 : i < xs.length) : ∃ x, atI xs i = some x ∧ xs[i.toNat]? = some x := by
  obtain ⟨k, rfl⟩ := Int.eq_ofNat_of_zero_le h0
  have hk : k < xs.length := by omega
  refine ⟨xs[k], ?_, ?_⟩
  · show atI xs (k : Int) = _
    rw [atI_nat, List.getElem?_eq_getElem hk]
  · show xs[k]? = _
    rw [List.getElem?_eq_getElem hk]
theorem atI_mem {α : Type} {xs : List α} {i : Int} (h0 : 0 ≤ i) (h1 : i < xs.length) : ∃ x, atI xs i = some x ∧ x ∈ xs := by
  obtain ⟨x, h, h2⟩ := atI_of h0 h1
  exact ⟨x, h, List.mem_of_getElem? h2⟩
@[simp] theorem atI_zero {α : Type} (xs : List α) : atI xs 0 = xs[0]? := atI_nat xs 0
@[simp] theorem atI_one {α : Type} (xs : List α) : atI xs 1 = xs[1]? := atI_nat xs 1
@[simp] theorem atI_2 {α : Type} (xs : List α) : atI xs 2 = xs[2]? := atI_nat xs 2
@[simp] theorem atI_3 {α : Type} (xs : List α) : atI xs 3 = xs[3]? := atI_nat xs 3
@[simp] theorem atI_4 {α : Type} (xs : List α) : atI xs 4 = xs[4]? := atI_nat xs 4
@[simp] theorem atI_5 {α : Type} (xs : List α) : atI xs 5 = xs[5]? := atI_nat xs 5
@[simp] theorem atI_6 {α : Type} (xs : List α) : atI xs 6 = xs[6]? := atI_nat xs 6
@[simp] theorem atI_7 {α : Type} (xs : List α) : atI xs 7 = xs[7]? := atI_nat xs 7
@[simp] theorem atI_8 {α : Type} (xs : List α) : atI xs 8 = xs[8]? := atI_nat xs 8
@[simp] theorem atI_9 {α : Type} (xs : List α) : atI xs 9 = xs[9]? := atI_nat xs 9
@[simp] theorem atI_10 {α : Type} (xs : List α) : atI xs 10 = xs[10]? := atI_nat xs 10
@[simp] theorem atI_11 {α : Type} (xs : List α) : atI xs 11 = xs[11]? := atI_nat xs 11
@[simp] theorem atI_12 {α : Type} (xs : List α) : atI xs 12 = xs[12]? := atI_nat xs 12
@[simp] theorem atI_13 {α : Type} (xs : List α) : atI xs 13 = xs[13]? := atI_nat xs 13
@[simp] theorem atI_14 {α : Type} (xs : List α) : atI xs 14 = xs[14]? := atI_nat xs 14
@[simp] theorem atI_15 {α : Type} (xs : List α) : atI xs 15 = xs[15]? := atI_nat xs 15
@[simp] theorem atI_16 {α : Type} (xs : List α) : atI xs 16 = xs[16]? := atI_nat xs 16
@[simp] theorem atI_17 {α : Type} (xs : List α) : atI xs 17 = xs[17]? := atI_nat xs 17
@[simp] theorem atI_18 {α : Type} (xs : List α) : atI xs 18 = xs[18]? := atI_nat xs 18
@[simp] theorem atI_19 {α : Type} (xs : List α) : atI xs 19 = xs[19]? := atI_nat xs 19
@[simp] theorem atI_20 {α : Type} (xs : List α) : atI xs 20 = xs[20]? := atI_nat xs 20
@[simp] theorem atI_21 {α : Type} (xs : List α) : atI xs 21 = xs[21]? := atI_nat xs 21
@[simp] theorem atI_22 {α : Type} (xs : List α) : atI xs 22 = xs[22]? := atI_nat xs 22
@[simp] theorem atI_23 {α : Type} (xs : List α) : atI xs 23 = xs[23]? := atI_nat xs 23
@[simp] theorem atI_24 {α : Type} (xs : List α) : atI xs 24 = xs[24]? := atI_nat xs 24
@[simp] theorem atI_25 {α : Type} (xs : List α) : atI xs 25 = xs[25]? := atI_nat xs 25
@[simp] theorem atI_26 {α : Type} (xs : List α) : atI xs 26 = xs[26]? := atI_nat xs 26
@[simp] theorem atI_27 {α : Type} (xs : List α) : atI xs 27 = xs[27]? := atI_nat xs 27
@[simp] theorem atI_28 {α : Type} (xs : List α) : atI xs 28 = xs[28]? := atI_nat xs 28
@[simp] theorem atI_29 {α : Type} (xs : List α) : atI xs 29 = xs[29]? := atI_nat xs 29
@[simp] theorem atI_30 {α : Type} (xs : List α) : atI xs 30 = xs[30]? := atI_nat xs 30
@[simp] theorem atI_31 {α : Type} (xs : List α) : atI xs 31 = xs[31]? := atI_nat xs 31
@[simp] theorem atI_32 {α : Type} (xs : List α) : atI xs 32 = xs[32]? := atI_nat xs 32
@[simp] theorem atI_33 {α : Type} (xs : List α) : atI xs 33 = xs[33]? := atI_nat xs 33
@[simp] theorem atI_34 {α : Type} (xs : List α) : atI xs 34 = xs[34]? := atI_nat xs 34
@[simp] theorem atI_35 {α : Type} (xs : List α) : atI xs 35 = xs[35]? := atI_nat xs 35
@[simp] theorem atI_36 {α : Type} (xs : List α) : atI xs 36 = xs[36]? := atI_nat xs 36
@[simp] theorem atI_37 {α : Type} (xs : List α) : atI xs 37 = xs[37]? := atI_nat xs 37
@[simp] theorem atI_38 {α : Type} (xs : List α) : atI xs 38 = xs[38]? := atI_nat xs 38
@[simp] theorem atI_39 {α : Type} (xs : List α) : atI xs 39 = xs[39]? := atI_nat xs 39
@[simp] theorem atI_40 {α : Type} (xs : List α) : atI xs 40 = xs[40]? := atI_nat xs 40
@[simp] theorem atI_41 {α : Type} (xs : List α) : atI xs 41 = xs[41]? := atI_nat xs 41
@[simp] theorem atI_42 {α : Type} (xs : List α) : atI xs 42 = xs[42]? := atI_nat xs 42
@[simp] theorem atI_43 {α : Type} (xs : List α) : atI xs 43 = xs[43]? := atI_nat xs 43
@[simp] theorem atI_44 {α : Type} (xs : List α) : atI xs 44 = xs[44]? := atI_nat xs 44
@[simp] theorem atI_45 {α : Type} (xs : List α) : atI xs 45 = xs[45]? := atI_nat xs 45
@[simp] theorem atI_46 {α : Type} (xs : List α) : atI xs 46 = xs[46]? := atI_nat xs 46
@[simp] theorem atI_47 {α : Type} (xs : List α) : atI xs 47 = xs[47]? := atI_nat xs 47
@[simp] theorem atI_48 {α : Type} (xs : List α) : atI xs 48 = xs[48]? := atI_nat xs 48
@[simp] theorem atI_49 {α : Type} (xs : List α) : atI xs 49 = xs[49]? := atI_nat xs 49
@[simp] theorem atI_50 {α : Type} (xs : List α) : atI xs 50 = xs[50]? := atI_nat xs 50
@[simp] theorem atI_51 {α : Type} (xs : List α) : atI xs 51 = xs[51]? := atI_nat xs 51
@[simp] theorem atI_52 {α : Type} (xs : List α) : atI xs 52 = xs[52]? := atI_nat xs 52
@[simp] theorem atI_53 {α : Type} (xs : List α) : atI xs 53 = xs[53]? := atI_nat xs 53
@[simp] theorem atI_54 {α : Type} (xs : List α) : atI xs 54 = xs[54]? := atI_nat xs 54
@[simp] theorem atI_55 {α : Type} (xs : List α) : atI xs 55 = xs[55]? := atI_nat xs 55
@[simp] theorem atI_56 {α : Type} (xs : List α) : atI xs 56 = xs[56]? := atI_nat xs 56
@[simp] theorem atI_57 {α : Type} (xs : List α) : atI xs 57 = xs[57]? := atI_nat xs 57
@[simp] theorem atI_58 {α : Type} (xs : List α) : atI xs 58 = xs[58]? := atI_nat xs 58
@[simp] theorem atI_59 {α : Type} (xs : List α) : atI xs 59 = xs[59]? := atI_nat xs 59
@[simp] theorem atI_60 {α : Type} (xs : List α) : atI xs 60 = xs[60]? := atI_nat xs 60
@[simp] theorem atI_61 {α : Type} (xs : List α) : atI xs 61 = xs[61]? := atI_nat xs 61
@[simp] theorem atI_62 {α : Type} (xs : List α) : atI xs 62 = xs[62]? := atI_nat xs 62
@[simp] theorem atI_63 {α : Type} (xs : List α) : atI xs 63 = xs[63]? := atI_nat xs 63
@[simp] theorem atI_64 {α : Type} (xs : List α) : atI xs 64 = xs[64]? := atI_nat xs 64
/-- a list of ints -/
theorem atI_ints {xs : List Int} {i : Int} (h0 : 0 ≤ i) (h1 : i < xs.length) : ∃ x, atI (xs.map PyData.int) i = some (.int x) ∧ x ∈ xs := by
  obtain ⟨d, h, hm⟩ := atI_mem (xs := xs.map PyData.int) h0 (by simpa using h1)
  obtain ⟨x, hx, rfl⟩ := List.mem_map.mp hm
  exact ⟨x, h, hx⟩
theorem fmod_bound {a b : Int} (h : 0 < b) : 0 ≤ a.fmod b ∧ a.fmod b < b := ⟨Int.fmod_nonneg_of_pos a h, Int.fmod_lt_of_pos a h⟩
@[simp] theorem frz0 (ds : List PyData) (ρ : Sls) : frz 0 (.own ds :: ρ) = .val (.list ds) :: ρ := nd rfl
@[simp] theorem frz0v (d : PyData) (ρ : Sls) : frz 0 (.val d :: ρ) = .val d :: ρ := nd rfl
@[simp] theorem frz0u (ρ : Sls) : frz 0 (.un :: ρ) = .un :: ρ := nd rfl
@[simp] theorem frz_succ (i : Nat) (s : Sl) (ρ : Sls) : frz (i + 1) (s :: ρ) = s :: frz i ρ := by
  unfold frz
  rw [List.getElem?_cons_succ]
  cases e : ρ[i]? with
  | none => rfl
  | some s' => cases s' <;> rfl
@[simp] theorem gApp_is (i : Nat) (f : Sls → Res PyData) (ρ : Sls) {ds : List PyData} (h : ρ[i]? = some (.own ds)) : gApp i f ρ = (f ρ).out (fun d ρ => if ds.length < 16777216 then .nx (ρ.set i (.own (ds ++ [d]))) else .bad) ρ := by
  unfold gApp
  rw [h]
  exact sE_is ..

/-! ### texts as lists of numbers -/
def tx (l : List Nat) : Str := ⟨l.toArray⟩
section
variable (a b l : List Nat) (c : Nat) (i : Int) (lo hi : Option Int)
@[simp] theorem tx_len : (tx l).length = l.length := by show l.toArray.size = _; simp
@[simp] theorem tx_app : tx a ++ tx b = tx (a ++ b) := by
  show (⟨a.toArray ++ b.toArray⟩ : Str) = ⟨(a ++ b).toArray⟩
  rw [List.append_toArray]
@[simp] theorem tx_cps : (tx l).cps.toList = l := by show l.toArray.toList = _; simp
theorem tx_of (z : Str) : ∃ l, z = tx l := ⟨z.cps.toList, by cases z; rfl⟩
@[simp] theorem tx_inj : (tx a = tx b) = (a = b) := propext ⟨fun h => by rw [← tx_cps a, h, tx_cps], fun h => by rw [h]⟩
@[simp] theorem ixD_tx : ixD (.str (tx l)) (.int i) = if l.length ≤ 16777216 then (atI l i).map fun c => .str (tx [c]) else none := by
  rw [ixD_str, tx_len, tx_cps]; rfl
/-- a part of a list -/
def cutL {α : Type} (xs : List α) (lo hi : Option Int) : List α := (xs.drop (HT.sIx xs.length 0 lo)).take (HT.sIx xs.length xs.length hi - HT.sIx xs.length 0 lo)
theorem cutD_is (xs : List PyData) : cutD xs lo hi = cutL xs lo hi := rfl
@[simp] theorem cutS_tx : cutS (tx l) lo hi = tx (cutL l lo hi) := by
  unfold cutS cutL tx
  have h : (⟨l.toArray⟩ : Str).length = l.length := tx_len l
  rw [h]
@[simp] theorem signsD_tx : signsD (tx l) = l.map fun c => .str (tx [c]) := by
  unfold signsD; rw [tx_cps]; rfl
@[simp] theorem intXD_int (i : Int) : intXD [.int i] = some (.int i) := nd rfl
@[simp] theorem intXD_bool (b : Bool) : intXD [.bool b] = some (.int (if b = true then 1 else 0)) := nd rfl
@[simp] theorem intXD_str (z : Str) : intXD [.str z] = if z.length ≤ 640 then (PySem.intText? z).map .int else none := nd rfl
@[simp] theorem ordD_tx : ordD [.str (tx [c])] = some (.int c) := nd rfl
@[simp] theorem inD_tx : inD (.str (tx [c])) (.str (tx l)) = some (.bool (decide (c ∈ l))) := by
  show some (PyData.bool (!(Builtin.Str.occurrences (tx l) (tx [c]) 0 (tx l).length 1).isEmpty)) = _
  rw [show tx [c] = (⟨#[c]⟩ : Str) from rfl, PySem.StrLaws.found_one, tx_cps]
@[simp] theorem notInD_tx : notInD (.str (tx [c])) (.str (tx l)) = some (.bool (!decide (c ∈ l))) := by
  show some (PyData.bool (!(!(Builtin.Str.occurrences (tx l) (tx [c]) 0 (tx l).length 1).isEmpty))) = _
  rw [show tx [c] = (⟨#[c]⟩ : Str) from rfl, PySem.StrLaws.found_one, tx_cps]
end
theorem list_choose {α β : Type} {f : α → β} {p : α → Prop} : ∀ {ys : List β}, (∀ y ∈ ys, ∃ c, y = f c ∧ p c) → ∃ cs : List α, ys = cs.map f ∧ ∀ c ∈ cs, p c
  | [], _ => ⟨[], rfl, fun c h => by cases h⟩
  | y :: ys, h => by
    obtain ⟨c, e, q⟩ := h y List.mem_cons_self
    obtain ⟨cs, e2, q2⟩ := list_choose (ys := ys) fun z hz => h z (List.mem_cons_of_mem _ hz)
    exact ⟨c :: cs, by rw [e, e2]; rfl, fun d hd => by
      rcases List.mem_cons.mp hd with rfl | hd
      · exact q
      · exact q2 d hd⟩
theorem join_one : ∀ cs : List Nat, Txt.join (tx []) (cs.map fun c => tx [c]) = tx cs := by
  have h : ∀ cs : List Nat, Str.join (tx []) (cs.map fun c => tx [c]) = tx cs := by
    intro cs
    induction cs with
    | nil => rfl
    | cons c cs ih =>
      cases cs with
      | nil => rfl
      | cons d ds =>
        show tx [c] ++ tx [] ++ Str.join (tx []) ((d :: ds).map fun c => tx [c]) = _
        rw [ih, tx_app, tx_app]; rfl
  intro cs
  show Builtin.Str.glued (tx []) (cs.map fun c => tx [c]) = _
  rw [PySem.StrLaws.glued_eq_join, h]
/-- ''.join(a list of signs) -/
theorem joinD_one (cs : List Nat) (h : cs.length ≤ 16777216) : joinD (.str (tx [])) [.list (cs.map fun c => .str (tx [c]))] = some (.str (tx cs)) := by
  show joinS (tx []) (cs.map fun c => .str (tx [c])) = _
  unfold joinS
  have e : cs.map (fun c => PyData.str (tx [c])) = (cs.map fun c => tx [c]).map PyData.str := by rw [List.map_map]; rfl
  rw [e, strsOf_map, Option.bind_some]
  have e2 : ((cs.map fun c => tx [c]).map (·.length)).sum = cs.length := by
    rw [List.map_map]
    induction cs with
    | nil => rfl
    | cons c cs ih =>
      rw [List.map_cons, List.sum_cons, ih (by rw [List.length_cons] at h; omega) (by rw [List.map_map]; rfl), List.length_cons]
      show (tx [c]).length + _ = _
      rw [tx_len, List.length_singleton]; omega
  rw [if_pos (by rw [e2, tx_len]; simpa using h), join_one]
theorem one_ltI (a b : Nat) : ([a] < [b]) ↔ a < b := by
  rw [List.cons_lt_cons_iff]
  simp
@[simp] theorem one_lt (a b : Nat) : ([a] < [b]) = (a < b) := propext (one_ltI a b)
@[simp] theorem one_le (a b : Nat) : ([a] ≤ [b]) = (a ≤ b) := by
  refine propext ⟨fun h => ?_, fun h => ?_⟩
  · exact Nat.not_lt.mp fun z => h ((one_ltI b a).mpr z)
  · exact fun z => Nat.not_lt.mpr h ((one_ltI b a).mp z)
/-! cuts -/
theorem cutL_from {α : Type} (xs : List α) (k : Nat) : cutL xs (some (k : Int)) none = xs.drop k := by
  unfold cutL
  rw [HT.sIx_nat, HT.sIx_none]
  by_cases h : k ≤ xs.length
  · rw [Nat.min_eq_left h, List.take_of_length_le (by rw [List.length_drop]; omega)]
  · rw [Nat.min_eq_right (by omega), List.drop_eq_nil_of_le (Nat.le_refl _), List.drop_eq_nil_of_le (by omega), List.take_nil]
theorem cutL_to {α : Type} (xs : List α) (k : Nat) : cutL xs none (some (k : Int)) = xs.take k := by
  unfold cutL
  rw [HT.sIx_nat, HT.sIx_none, List.drop_zero, Nat.sub_zero]
  by_cases h : k ≤ xs.length
  · rw [Nat.min_eq_left h]
  · rw [Nat.min_eq_right (by omega), List.take_of_length_le (Nat.le_refl _), List.take_of_length_le (by omega)]
theorem cutL_from1 {α : Type} (xs : List α) (k : Nat) : cutL xs (some ((k : Int) + 1)) none = xs.drop (k + 1) := cutL_from xs (k + 1)
theorem cutL_mem {α : Type} {xs : List α} {lo hi : Option Int} {x : α} (h : x ∈ cutL xs lo hi) : x ∈ xs := List.mem_of_mem_drop (List.mem_of_mem_take h)
theorem cutL_len {α : Type} (xs : List α) (lo hi : Option Int) : (cutL xs lo hi).length ≤ xs.length := by
  unfold cutL
  rw [List.length_take, List.length_drop]; omega
/-! ### == of sequences -/
/-- no dict, texts of real signs, at most n deep -/
def niceD (n : Nat) (d : PyData) : Bool := noDic d && (d.canLay0 && decide (d.depth ≤ n))
theorem niceD_iff {n : Nat} {d : PyData} : niceD n d = true ↔ noDic d = true ∧ d.canLay0 = true ∧ d.depth ≤ n := by
  unfold niceD
  rw [Bool.and_eq_true, Bool.and_eq_true, decide_eq_true_eq]
theorem nice_eqOk {a b : PyData} (ha : niceD 64 a = true) (hb : niceD 64 b = true) : eqOk a b = true := by
  obtain ⟨h1, h2, h3⟩ := niceD_iff.mp ha
  obtain ⟨k1, k2, k3⟩ := niceD_iff.mp hb
  unfold eqOk SeqAt.shaped
  rw [h1, k1, h2, k2, decide_eq_true h3, decide_eq_true k3]
  simp
theorem eqD_nice {a b : PyData} (ha : niceD 64 a = true) (hb : niceD 64 b = true) : eqD a b = some (.bool (PyData.eqv a b)) := by
  unfold eqD; rw [if_pos (nice_eqOk ha hb)]
theorem neD_nice {a b : PyData} (ha : niceD 64 a = true) (hb : niceD 64 b = true) : neD a b = some (.bool (!PyData.eqv a b)) := by
  unfold neD; rw [if_pos (nice_eqOk ha hb)]
theorem niceD_mono {n m : Nat} {d : PyData} (h : niceD n d = true) (l : n ≤ m) : niceD m d = true := by
  obtain ⟨h1, h2, h3⟩ := niceD_iff.mp h
  exact niceD_iff.mpr ⟨h1, h2, Nat.le_trans h3 l⟩
theorem nice_all {n : Nat} : ∀ {xs : List PyData}, (∀ x ∈ xs, niceD n x = true) → noDics xs = true ∧ PyData.canLayAll0 xs = true ∧ PyData.depthAll xs ≤ n
  | [], _ => ⟨rfl, rfl, Nat.zero_le _⟩
  | x :: xs, h => by
    obtain ⟨a1, a2, a3⟩ := nice_all fun y hy => h y (List.mem_cons_of_mem _ hy)
    obtain ⟨b1, b2, b3⟩ := niceD_iff.mp (h x List.mem_cons_self)
    refine ⟨by rw [noDics, b1, a1]; rfl, by rw [PyData.canLayAll0, b2, a2]; rfl, ?_⟩
    rw [PyData.depthAll]
    exact Nat.max_le.mpr ⟨b3, a3⟩
theorem nice_list {n : Nat} {xs : List PyData} (h : ∀ x ∈ xs, niceD n x = true) : niceD (n + 1) (.list xs) = true := by
  obtain ⟨a1, a2, a3⟩ := nice_all h
  exact niceD_iff.mpr ⟨by rw [noDic]; exact a1, by rw [PyData.canLay0]; exact a2, by rw [PyData.depth]; omega⟩
theorem nice_tuple {n : Nat} {xs : List PyData} (h : ∀ x ∈ xs, niceD n x = true) : niceD (n + 1) (.tuple xs) = true := by
  obtain ⟨a1, a2, a3⟩ := nice_all h
  exact niceD_iff.mpr ⟨by rw [noDic]; exact a1, by rw [PyData.canLay0]; exact a2, by rw [PyData.depth]; omega⟩
@[simp] theorem nice_none (n : Nat) : niceD n .none = true := niceD_iff.mpr ⟨by rw [noDic], by rw [PyData.canLay0], by rw [PyData.depth]; omega⟩
@[simp] theorem nice_bool (n : Nat) (b : Bool) : niceD n (.bool b) = true := niceD_iff.mpr ⟨by rw [noDic], by rw [PyData.canLay0], by rw [PyData.depth]; omega⟩
@[simp] theorem nice_int (n : Nat) (b : Int) : niceD n (.int b) = true := niceD_iff.mpr ⟨by rw [noDic], by rw [PyData.canLay0], by rw [PyData.depth]; omega⟩
theorem nice_tx (n : Nat) (l : List Nat) (h : ∀ c ∈ l, c < 1114112) : niceD n (.str (tx l)) = true := by
  refine niceD_iff.mpr ⟨by rw [noDic], ?_, by rw [PyData.depth]; omega⟩
  rw [PyData.canLay0]
  show (l.toArray).all _ = true
  simpa using h
theorem eqv_same {n : Nat} {d : PyData} (h : niceD n d = true) : PyData.eqv d d = true := SeqAt.eqv_refl d (niceD_iff.mp h).2.1
@[simp] theorem eqD_int_str (i : Int) (z : Str) : eqD (.int i) (.str z) = some (.bool false) := by simp [eqD, eqOk, scalD, PyData.eqv]
@[simp] theorem eqD_str_int (i : Int) (z : Str) : eqD (.str z) (.int i) = some (.bool false) := by simp [eqD, eqOk, scalD, PyData.eqv]
@[simp] theorem neD_int_str (i : Int) (z : Str) : neD (.int i) (.str z) = some (.bool true) := by simp [neD, eqOk, scalD, PyData.eqv]
@[simp] theorem neD_str_int (i : Int) (z : Str) : neD (.str z) (.int i) = some (.bool true) := by simp [neD, eqOk, scalD, PyData.eqv]
@[simp] theorem eqD_none_str (z : Str) : eqD .none (.str z) = some (.bool false) := by simp [eqD, eqOk, scalD, PyData.eqv]
@[simp] theorem eqD_bool_str (b : Bool) (z : Str) : eqD (.bool b) (.str z) = some (.bool false) := by simp [eqD, eqOk, scalD, PyData.eqv]
@[simp] theorem neD_bool_str (b : Bool) (z : Str) : neD (.bool b) (.str z) = some (.bool true) := by simp [neD, eqOk, scalD, PyData.eqv]
@[simp] theorem neD_none_str (z : Str) : neD .none (.str z) = some (.bool true) := by simp [neD, eqOk, scalD, PyData.eqv]
/-- a comprehension with a test -/
theorem compL_filter {t : Sls → Res Bool} {f : Sls → Res PyData} {ρ : Sls} (i : Nat) {p : PyData → Bool} {φ : PyData → PyData} : ∀ (ds : List PyData), (∀ d ∈ ds, t (ρ.set i (.val d)) = .ok (p d)) → (∀ d ∈ ds, p d = true → f (ρ.set i (.val d)) = .ok (φ d)) →
    compL (bName i) t f ρ ds = .ok ((ds.filter p).map φ)
  | [], _, _ => rfl
  | d :: ds, h1, h2 => by
    have ih := compL_filter i ds (fun x hx => h1 x (List.mem_cons_of_mem _ hx)) fun x hx => h2 x (List.mem_cons_of_mem _ hx)
    have hd := h1 d List.mem_cons_self
    cases hp : p d with
    | true => rw [List.filter_cons_of_pos hp]; exact compL_name _ _ _ _ _ i (by rw [hd, hp]) (h2 d List.mem_cons_self hp) ih
    | false => rw [List.filter_cons_of_neg (by rw [hp]; decide), compL_skip _ _ _ _ _ i (by rw [hd, hp])]; exact ih
@[simp] theorem minLD_map (ns : List Int) : minLD [.list (ns.map .int)] = (minI ns).map .int := by
  show (intsOf (ns.map PyData.int)).bind _ = _
  rw [intsOf_map, Option.bind_some]
@[simp] theorem maxLD_map (ns : List Int) : maxLD [.list (ns.map .int)] = (maxI ns).map .int := by
  show (intsOf (ns.map PyData.int)).bind _ = _
  rw [intsOf_map, Option.bind_some]
@[simp] theorem sumD_map (ns : List Int) : sumD [.list (ns.map .int)] = some (.int ns.sum) := by
  show (intsOf (ns.map PyData.int)).map _ = _
  rw [intsOf_map, Option.map_some]
@[simp] theorem gFrz_is (i : Nat) (g : Sls → Out) (ρ : Sls) : gFrz i g ρ = (g ρ).thn fun ρ' => .nx (frz i ρ') := by
  unfold gFrz Out.thn; cases g ρ <;> rfl
@[simp] theorem inD_tuple (x : PyData) (ds : List PyData) (h1 : flatD x = true) (h2 : ds.all flatD = true) : inD x (.tuple ds) = some (.bool (hasD x ds)) := by
  show (if flatD x = true ∧ ds.all flatD = true then _ else _) = _
  rw [if_pos ⟨h1, h2⟩]
@[simp] theorem inD_list (x : PyData) (ds : List PyData) (h1 : flatD x = true) (h2 : ds.all flatD = true) : inD x (.list ds) = some (.bool (hasD x ds)) := by
  show (if flatD x = true ∧ ds.all flatD = true then _ else _) = _
  rw [if_pos ⟨h1, h2⟩]
@[simp] theorem notInD_tuple (x : PyData) (ds : List PyData) (h1 : flatD x = true) (h2 : ds.all flatD = true) : notInD x (.tuple ds) = some (.bool (!hasD x ds)) := by
  show (if flatD x = true ∧ ds.all flatD = true then _ else _) = _
  rw [if_pos ⟨h1, h2⟩]
@[simp] theorem notInD_list (x : PyData) (ds : List PyData) (h1 : flatD x = true) (h2 : ds.all flatD = true) : notInD x (.list ds) = some (.bool (!hasD x ds)) := by
  show (if flatD x = true ∧ ds.all flatD = true then _ else _) = _
  rw [if_pos ⟨h1, h2⟩]
@[simp] theorem flat_none : flatD .none = true := nd rfl
@[simp] theorem flat_bool (b : Bool) : flatD (.bool b) = true := nd rfl
@[simp] theorem flat_int (b : Int) : flatD (.int b) = true := nd rfl
@[simp] theorem flat_str (b : Str) : flatD (.str b) = true := nd rfl
@[simp] theorem hasD_nil (x : PyData) : hasD x [] = false := nd rfl
@[simp] theorem hasD_cons (x y : PyData) (ds : List PyData) : hasD x (y :: ds) = (PyData.eqv y x || hasD x ds) := nd rfl
theorem eqv_int_int (i j : Int) : PyData.eqv (.int i) (.int j) = decide (i = j) := by simp only [PyData.eqv]; exact beq_dec i j
theorem eqv_str_str (i j : Str) : PyData.eqv (.str i) (.str j) = decide (i = j) := by simp only [PyData.eqv]; exact beq_dec i j
theorem eqv_bool_bool (i j : Bool) : PyData.eqv (.bool i) (.bool j) = decide (i = j) := by simp only [PyData.eqv]; exact beq_dec i j
def par2 (i j : Nat) (ds : List PyData) (ρ : Sls) : Out := match ds with
  | [x, y] => .nx ((ρ.set i (.val x)).set j (.val y))
  | _ => .bad
@[simp] theorem par2_is (i j : Nat) (x y : PyData) (ρ : Sls) : par2 i j [x, y] ρ = .nx ((ρ.set i (.val x)).set j (.val y)) := nd rfl
@[simp] theorem gPar_is (i j : Nat) (fs : Sls → Res (List PyData)) (ρ : Sls) : gPar i j fs ρ = (fs ρ).out (par2 i j) ρ := by
  unfold gPar
  rw [sE_is]
  rfl
theorem canLay_of {n : Nat} {d : PyData} (h : niceD n d = true) : d.canLay0 = true := (niceD_iff.mp h).2.1
/-- pairs of a number and something -/
theorem eq_pair {r r' : Int} {d d' : PyData} (h : niceD 62 d = true) (h' : niceD 62 d' = true) : eqD (.tuple [.int r, d]) (.tuple [.int r', d']) = some (.bool (decide (r = r') && PyData.eqv d d')) := by
  rw [eqD_nice (niceD_mono (nice_tuple (n := 62) (by simp [h])) (by decide)) (niceD_mono (nice_tuple (n := 62) (by simp [h'])) (by decide))]
  simp [PyData.eqv, PyData.eqvAll, beq_dec]
theorem lt_pair {r r' : Int} {d d' : PyData} (h : niceD 62 d = true) (h' : niceD 62 d' = true) : ltV (.tuple [.int r, d]) (.tuple [.int r', d']) = (if r = r' then (if PyData.eqv d d' = true then some false else lessD d d') else some (decide (r < r'))).map .bool := by
  obtain ⟨h1, h2, h3⟩ := niceD_iff.mp h
  obtain ⟨k1, k2, k3⟩ := niceD_iff.mp h'
  unfold ltV
  rw [if_pos (by simp [noDic, noDics, h1, k1, PyData.depth, PyData.depthAll]; omega)]
  simp [lessD, lessL, h2, k2, PyData.canLay0, PyData.eqv]
theorem less_int (i j : Int) : lessD (.int i) (.int j) = some (decide (i < j)) := by simp only [lessD]
theorem less_str (i j : Str) : lessD (.str i) (.str j) = some (decide (i.cps.toList < j.cps.toList)) := by simp only [lessD]
theorem less_bool (i j : Bool) : lessD (.bool i) (.bool j) = some (decide (b2i i < b2i j)) := by simp only [lessD]
theorem lt_lists {a b : List Nat} (h : ¬ a < b) (h2 : a ≠ b) : b < a := by
  by_cases h3 : b < a
  · exact h3
  · exact absurd (List.le_antisymm (List.not_lt.mp h3) (List.not_lt.mp h)) h2
/-! ### loops by what stays -/
theorem forL_inv {i : Nat} {g : Sls → Out} {P : Sls → Prop} : ∀ (ds : List PyData), (∀ d ∈ ds, ∀ ρ, P ρ → ∃ ρ2, g (ρ.set i (.val d)) = .nx ρ2 ∧ P ρ2) → ∀ ρ, P ρ → ∃ ρ', forL (bName i) g ds ρ = .nx ρ' ∧ P ρ'
  | [], _, ρ, h => ⟨ρ, rfl, h⟩
  | d :: ds, hs, ρ, h => by
    obtain ⟨ρ2, e, h2⟩ := hs d List.mem_cons_self ρ h
    obtain ⟨ρ', e', h'⟩ := forL_inv ds (fun x hx => hs x (List.mem_cons_of_mem _ hx)) ρ2 h2
    exact ⟨ρ', by rw [forL_name, e, turn_nx, e'], h'⟩
/-- with the number of turns done -/
theorem forL_invN {i : Nat} {g : Sls → Out} {P : Nat → Sls → Prop} : ∀ (ds : List PyData) (n : Nat), (∀ k d, ds[k]? = some d → ∀ ρ, P (n + k) ρ → ∃ ρ2, g (ρ.set i (.val d)) = .nx ρ2 ∧ P (n + k + 1) ρ2) → ∀ ρ, P n ρ → ∃ ρ', forL (bName i) g ds ρ = .nx ρ' ∧ P (n + ds.length) ρ'
  | [], n, _, ρ, h => ⟨ρ, rfl, h⟩
  | d :: ds, n, hs, ρ, h => by
    obtain ⟨ρ2, e, h2⟩ := hs 0 d rfl ρ h
    obtain ⟨ρ', e', h'⟩ := forL_invN ds (n + 1) (fun k x hx ρ3 h3 => by
      have := hs (k + 1) x (by simpa using hx) ρ3 (by rw [show n + (k + 1) = n + 1 + k by omega]; exact h3)
      rw [show n + (k + 1) + 1 = n + 1 + k + 1 by omega] at this
      exact this) ρ2 h2
    exact ⟨ρ', by rw [forL_name, e, turn_nx, e'], by rw [List.length_cons, show n + (ds.length + 1) = n + 1 + ds.length by omega]; exact h'⟩
theorem rangeD_at {lo : Int} {n k : Nat} {d : PyData} (h : (rangeD lo n)[k]? = some d) : d = .int (lo + k) := by
  unfold rangeD at h
  rw [List.getElem?_map] at h
  obtain ⟨j, h1, h2⟩ := Option.map_eq_some_iff.mp h
  have := (List.getElem?_eq_some_iff.mp h1).2
  rw [List.getElem_range] at this
  rw [← h2, this]
theorem cutL_nat {α : Type} (xs : List α) (a b : Nat) (h : a ≤ b) : cutL xs (some (a : Int)) (some (b : Int)) = (xs.drop a).take (b - a) := by
  unfold cutL
  rw [HT.sIx_nat, HT.sIx_nat]
  by_cases ha : a ≤ xs.length
  · rw [Nat.min_eq_left ha]
    by_cases hb : b ≤ xs.length
    · rw [Nat.min_eq_left hb]
    · rw [Nat.min_eq_right (by omega), List.take_of_length_le (by rw [List.length_drop]; omega), List.take_of_length_le (by rw [List.length_drop]; omega)]
  · rw [Nat.min_eq_right (a := a) (by omega), List.drop_eq_nil_of_le (Nat.le_refl _), List.drop_eq_nil_of_le (by omega), List.take_nil, List.take_nil]
theorem cut_ints (xs : List Int) (a b : Nat) (h : a ≤ b) : cutL (xs.map PyData.int) (some (a : Int)) (some (b : Int)) = ((xs.drop a).take (b - a)).map .int := by
  rw [cutL_nat _ _ _ h, List.map_take, List.map_drop]
@[simp] theorem findD_str (x y : Str) : findD (.str x) [.str y] = some (.int (Txt.find x y)) := nd rfl
@[simp] theorem upperD_str (x : Str) : upperD (.str x) [] = if x.length ≤ 5592405 then some (.str (Txt.upper x)) else none := nd rfl
@[simp] theorem lowerD_str (x : Str) : lowerD (.str x) [] = if x.length ≤ 5592405 then some (.str (Txt.lower x)) else none := nd rfl
@[simp] theorem startsD_str (x y : Str) : startsD (.str x) [.str y] = some (.bool (Txt.startswith x y)) := nd rfl
/-! upper and lower of plain texts -/
def upC (c : Nat) : Nat := if 97 ≤ c ∧ c ≤ 122 then c - 32 else c
def loC (c : Nat) : Nat := if 65 ≤ c ∧ c ≤ 90 then c + 32 else c
theorem upperOf_small : ((List.range 127).all fun c => decide (Unicode.upperOf c = [upC c])) = true := by decide +kernel
theorem lowerOf_small : ((List.range 127).all fun c => decide (Unicode.lowerOf c = [loC c])) = true := by decide +kernel
theorem placed_one {l : List Nat} {f : Nat → Nat → List Nat} {g : Nat → Nat} (h : ∀ i c, l[i]? = some c → f i c = [g c]) : placed (tx l) f = (l.map g).toArray := by
  have e1 : l.mapIdx (fun i c => (f i c).toArray) = l.map fun c => #[g c] := by
    refine List.ext_getElem? fun i => ?_
    rw [List.getElem?_mapIdx, List.getElem?_map]
    cases q : l[i]? with
    | none => rfl
    | some c => simp [h i c q]
  have e2 : (tx l).cps.mapIdx (fun i c => (f i c).toArray) = (l.map fun c => #[g c]).toArray := by
    rw [← e1]
    show l.toArray.mapIdx _ = _
    simp
  have e3 : ∀ l : List Nat, (l.map fun c => (#[g c] : Array Nat)).toArray.flatten = (l.map g).toArray := fun l => by
    apply Array.ext'
    rw [Array.toList_flatten]
    induction l with
    | nil => rfl
    | cons c l ih => simpa using ih
  unfold placed
  rw [e2, e3]
theorem upper_tx {l : List Nat} (h : ∀ c ∈ l, c < 127) : Txt.upper (tx l) = tx (l.map upC) := by
  unfold Txt.upper
  have e := placed_one (l := l) (f := fun _ c => Unicode.upperOf c) (g := upC) fun i c hc => by
    have := List.all_eq_true.mp upperOf_small c (List.mem_range.mpr (h c (List.mem_of_getElem? hc)))
    exact of_decide_eq_true this
  rw [e]
  rfl
theorem lower_tx {l : List Nat} (h : ∀ c ∈ l, c < 127) : Txt.lower (tx l) = tx (l.map loC) := by
  unfold Txt.lower
  have e := placed_one (l := l) (f := fun i _ => Unicode.lowerAt (tx l).cps i) (g := loC) fun i c hc => by
    have hlt := h c (List.mem_of_getElem? hc)
    have := List.all_eq_true.mp lowerOf_small c (List.mem_range.mpr hlt)
    have hg : (tx l).cps[i]? = some c := by show l.toArray[i]? = _; simpa using hc
    show Unicode.lowerAt (tx l).cps i = _
    unfold Unicode.lowerAt
    rw [hg]
    have hne : (c == 0x3A3) = false := by
      rw [beq_eq_false_iff_ne]
      omega
    simp only [hne, Bool.false_and]
    exact of_decide_eq_true this
  rw [e]
  rfl
/-- a method of a text -/
def onStr (r : Res PyData) (k : Str → Res PyData) : Res PyData := r >>= fun x => match x with
  | .str z => k z
  | _ => .bad
@[simp] theorem onStr_str (z : Str) (k : Str → Res PyData) : onStr (.ok (.str z)) k = k z := nd rfl
theorem dM_is (o : PyData → List PyData → Option PyData) (f : Sls → Res PyData) (fs : Sls → Res (List PyData)) (ρ : Sls) : dM o f fs ρ = onStr (f ρ) fun z => fs ρ >>= fun xs => ofO (o (.str z) xs) := by
  unfold dM onStr
  rfl
/-! a sign, so many times -/
@[simp] theorem mulVD_int (i j : Int) : mulVD (.int i) (.int j) = mulD (.int i) (.int j) := nd rfl
theorem mul_one_tx (c n : Nat) : Txt.mul (tx [c]) (n : Int) = tx (List.replicate n c) := by
  have go : ∀ (m : Nat) (acc : List Nat), (List.replicate m (tx [c]).cps).foldl (· ++ ·) acc.toArray = (acc ++ List.replicate m c).toArray := fun m => by
    induction m with
    | zero => intro acc; simp
    | succ m ih =>
      intro acc
      rw [List.replicate_succ, List.foldl_cons]
      have : acc.toArray ++ (tx [c]).cps = (acc ++ [c]).toArray := by show acc.toArray ++ [c].toArray = _; simp
      rw [this, ih, List.replicate_succ, List.append_assoc]
      rfl
  unfold Txt.mul
  by_cases h0 : n = 0
  · subst h0; rfl
  · rw [if_neg (by omega)]
    by_cases h1 : n = 1
    · subst h1; rfl
    · have hne : ((n : Int) == 1 || (tx [c]).length == 0) = false := by
        rw [tx_len]
        simp
        omega
      rw [hne, if_neg (by decide), Int.toNat_natCast]
      have := go n []
      show (⟨_⟩ : Str) = ⟨_⟩
      rw [show (#[] : Array Nat) = ([] : List Nat).toArray from rfl, this]
      rfl
@[simp] theorem mulVD_tx (c n : Nat) (h : n ≤ 1000) : mulVD (.str (tx [c])) (.int (n : Int)) = some (.str (tx (List.replicate n c))) := by
  show (if 0 ≤ (n : Int) ∧ (n : Int) ≤ 1000 ∧ (tx [c]).length = 1 then some (PyData.str (Txt.mul (tx [c]) n)) else none) = _
  rw [if_pos ⟨by omega, by omega, by rw [tx_len]; rfl⟩, mul_one_tx]
@[simp] theorem dBrw_is (i : Nat) (f : Sls → Res PyData) (ρ : Sls) : dBrw i f ρ = flatR (f (frz i ρ)) := nd rfl
@[simp] theorem tBrw_is (i : Nat) (f : Sls → Res Bool) (ρ : Sls) : tBrw i f ρ = boolR (f (frz i ρ)) := nd rfl
@[simp] theorem flatR_none : flatR (.ok .none) = .ok .none := nd rfl
@[simp] theorem flatR_bool (b : Bool) : flatR (.ok (.bool b)) = .ok (.bool b) := nd rfl
@[simp] theorem flatR_int (b : Int) : flatR (.ok (.int b)) = .ok (.int b) := nd rfl
@[simp] theorem flatR_str (b : Str) : flatR (.ok (.str b)) = .ok (.str b) := nd rfl
@[simp] theorem boolR_ok (b : Bool) : boolR (.ok b) = .ok b := nd rfl
/-! x op= e -/
@[simp] theorem gAug_is (i : Nat) (g : PyData → PyData → Option PyData) (f : Sls → Res PyData) (ρ : Sls) {x : PyData} (h : ρ[i]? = some (.val x)) : gAug i g f ρ = (f ρ).out (fun y ρ => match g x y with | some z => .nx (ρ.set i (.val z)) | none => .bad) ρ := by
  unfold gAug
  rw [h]
  exact sE_is ..
@[simp] theorem iaddD_int (i j : Int) : iaddD (.int i) (.int j) = some (.int (i + j)) := nd rfl
/-! methods of lists -/
def onL (d : PyData) (k : List PyData → Res PyData) : Res PyData := match d with
  | .list z => k z
  | _ => .bad
@[simp] theorem onL_list (z : List PyData) (k : List PyData → Res PyData) : onL (.list z) k = k z := nd rfl
@[simp] theorem dML_is (o : PyData → List PyData → Option PyData) (f : Sls → Res PyData) (fs : Sls → Res (List PyData)) (ρ : Sls) : dML o f fs ρ = (f ρ >>= fun d => onL d fun z => fs ρ >>= fun xs => ofO (o (.list z) xs)) := by
  unfold dML
  cases f ρ with
  | ok d => cases d <;> rfl
  | exc x => rfl
  | bad => rfl
/-! ### exceptions -/
@[simp] theorem turn_exc (x : Xn) (ρ : Sls) (k : Sls → Out) : (Out.exc x ρ).turn k = .exc x ρ := nd rfl
@[simp] theorem gRaise0_is (nm : Str) (ρ : Sls) : gRaise0 nm ρ = .exc ⟨nm, []⟩ ρ := nd rfl
@[simp] theorem gRaise1_is (nm : Str) (f : Sls → Res PyData) (ρ : Sls) : gRaise1 nm f ρ = (f ρ).out (fun d ρ => if flatD d = true then .exc ⟨nm, [("at", flatOf d)]⟩ ρ else .bad) ρ := sE_is ..
@[simp] theorem flatOf_int (i : Int) : flatOf (.int i) = .int i := nd rfl
@[simp] theorem flatOf_str (i : Str) : flatOf (.str i) = .str i := nd rfl
@[simp] theorem dOfV_int (i : Int) : dOfV (.int i) = .ok (.int i) := nd rfl
theorem gTryR_rt {tab : List (Str × Bool)} {i : Nat} {g1 : Sls → Out} {g2 : Addr → Xn → Sls → Out} {ρ ρ1 : Sls} {x : Xn} {d : PyData} (h1 : g1 ρ = .exc x ρ1) (h2 : tab.lookup x.nm = some true) (h3 : ∀ a, g2 a x (ρ1.set i (.adr a)) = .rt d) : gTryR tab i g1 g2 ρ = .rt d := by
  unfold gTryR
  rw [h1]
  simp only
  rw [h2]
  simp only
  have h : ∃ d, ∀ a, g2 a x (ρ1.set i (.adr a)) = .rt d := ⟨d, h3⟩
  rw [dif_pos h]
  have := (h.choose_spec 0).symm.trans (h3 0)
  exact this
theorem gTryR_nx {tab : List (Str × Bool)} {i : Nat} {g1 : Sls → Out} {g2 : Addr → Xn → Sls → Out} {ρ ρ1 : Sls} (h1 : g1 ρ = .nx ρ1) : gTryR tab i g1 g2 ρ = .nx ρ1 := by
  unfold gTryR
  rw [h1]
@[simp] theorem onAdr_zero (a : Addr) (r : Res PyData) (ρ : Sls) : onAdr 0 a r (.adr a :: ρ) = r := by unfold onAdr; simp
@[simp] theorem onAdr_succ (i : Nat) (a : Addr) (r : Res PyData) (s : Sl) (ρ : Sls) : onAdr (i + 1) a r (s :: ρ) = onAdr i a r ρ := by unfold onAdr; rw [List.getElem?_cons_succ]
def isRes (tab : List (Str × Bool)) (nm : Str) : Res PyData := match tab.lookup nm with
  | some b => .ok (.bool b)
  | none => .bad
@[simp] theorem dIsE_is (i : Nat) (a : Addr) (tab : List (Str × Bool)) (x : Xn) (ρ : Sls) : dIsE i a tab x ρ = onAdr i a (isRes tab x.nm) ρ := nd rfl
@[simp] theorem isRes_hit (nm : Str) (b : Bool) (tab : List (Str × Bool)) : isRes ((nm, b) :: tab) nm = .ok (.bool b) := by unfold isRes; simp
def atRes (tab : List Str) (x : Xn) : Res PyData := if x.nm ∈ tab then (match x.fs.lookup ("at" : Str) with
  | some v => dOfV v
  | none => .bad) else .bad
@[simp] theorem dAt_is (i : Nat) (a : Addr) (tab : List Str) (x : Xn) (ρ : Sls) : dAt i a tab x ρ = onAdr i a (atRes tab x) ρ := nd rfl
@[simp] theorem atRes_hit (nm : Str) (v : V) (tab : List Str) (fs : List (Str × V)) : atRes (nm :: tab) ⟨nm, ("at", v) :: fs⟩ = dOfV v := by unfold atRes; simp
end DL

namespace DL.Wk
noncomputable section
open PySem PySem.Spec PyProof.Rows L2 DL
def topS (i : Nat) : Stmt := PySem.Challenge.pw_peristyle_k25_mistakes_of_words.main.body.getD i (.Pass ⟨0, 0, 0, 0⟩)
def inS (i j : Nat) : Stmt := match topS i with
  | .ClassDef _ _ _ body _ _ _ _ _ _ _ => body.getD j (.Pass ⟨0, 0, 0, 0⟩)
  | _ => .Pass ⟨0, 0, 0, 0⟩
/-! is_figure(sign): 0 sign -/
abbrev s_is_figure : Stmt := topS 8
abbrev n_is_figure : List Str := ["sign"]
theorem sc_is_figure : FnScope n_is_figure ["sign"] (defScope s_is_figure) := ⟨rfl, rfl, rfl, by decide +kernel, rfl, by decide +kernel, by decide +kernel⟩
theorem nd_is_figure : List.Nodup n_is_figure := sc_is_figure.nd
/-! is_letter(sign): 0 sign -/
abbrev s_is_letter : Stmt := topS 9
abbrev n_is_letter : List Str := ["sign"]
theorem sc_is_letter : FnScope n_is_letter ["sign"] (defScope s_is_letter) := ⟨rfl, rfl, rfl, by decide +kernel, rfl, by decide +kernel, by decide +kernel⟩
theorem nd_is_letter : List.Nodup n_is_letter := sc_is_letter.nd
/-! is_reserved(word): 0 word -/
abbrev s_is_reserved : Stmt := topS 10
abbrev n_is_reserved : List Str := ["word"]
theorem sc_is_reserved : FnScope n_is_reserved ["word"] (defScope s_is_reserved) := ⟨rfl, rfl, rfl, by decide +kernel, rfl, by decide +kernel, by decide +kernel⟩
theorem nd_is_reserved : List.Nodup n_is_reserved := sc_is_reserved.nd
/-! is_name(x): 0 x 1 sign -/
abbrev s_is_name : Stmt := topS 11
abbrev n_is_name : List Str := ["x", "sign"]
theorem sc_is_name : FnScope n_is_name ["x"] (defScope s_is_name) := ⟨rfl, rfl, rfl, by decide +kernel, rfl, by decide +kernel, by decide +kernel⟩
theorem nd_is_name : List.Nodup n_is_name := sc_is_name.nd
/-! is_text(x): 0 x 1 sign -/
abbrev s_is_text : Stmt := topS 15
abbrev n_is_text : List Str := ["x", "sign"]
theorem sc_is_text : FnScope n_is_text ["x"] (defScope s_is_text) := ⟨rfl, rfl, rfl, by decide +kernel, rfl, by decide +kernel, by decide +kernel⟩
theorem nd_is_text : List.Nodup n_is_text := sc_is_text.nd
/-! word_at(text, at): 0 text 1 at 2 end 3 word -/
abbrev s_word_at : Stmt := topS 19
abbrev n_word_at : List Str := ["text", "at", "end", "word"]
theorem sc_word_at : FnScope n_word_at ["text", "at"] (defScope s_word_at) := ⟨rfl, rfl, rfl, by decide +kernel, rfl, by decide +kernel, by decide +kernel⟩
theorem nd_word_at : List.Nodup n_word_at := sc_word_at.nd
/-! number_at(text, at): 0 text 1 at 2 end -/
abbrev s_number_at : Stmt := topS 20
abbrev n_number_at : List Str := ["text", "at", "end"]
theorem sc_number_at : FnScope n_number_at ["text", "at"] (defScope s_number_at) := ⟨rfl, rfl, rfl, by decide +kernel, rfl, by decide +kernel, by decide +kernel⟩
theorem nd_number_at : List.Nodup n_number_at := sc_number_at.nd
/-! text_at(text, at): 0 text 1 at 2 signs 3 end 4 sign -/
abbrev s_text_at : Stmt := topS 21
abbrev n_text_at : List Str := ["text", "at", "signs", "end", "sign"]
theorem sc_text_at : FnScope n_text_at ["text", "at"] (defScope s_text_at) := ⟨rfl, rfl, rfl, by decide +kernel, rfl, by decide +kernel, by decide +kernel⟩
theorem nd_text_at : List.Nodup n_text_at := sc_text_at.nd
/-! mark_at(text, at): 0 text 1 at 2 mark -/
abbrev s_mark_at : Stmt := topS 22
abbrev n_mark_at : List Str := ["text", "at", "mark"]
theorem sc_mark_at : FnScope n_mark_at ["text", "at"] (defScope s_mark_at) := ⟨rfl, rfl, rfl, by decide +kernel, rfl, by decide +kernel, by decide +kernel⟩
theorem nd_mark_at : List.Nodup n_mark_at := sc_mark_at.nd
/-! thing_at(text, at): 0 text 1 at -/
abbrev s_thing_at : Stmt := topS 23
abbrev n_thing_at : List Str := ["text", "at"]
theorem sc_thing_at : FnScope n_thing_at ["text", "at"] (defScope s_thing_at) := ⟨rfl, rfl, rfl, by decide +kernel, rfl, by decide +kernel, by decide +kernel⟩
theorem nd_thing_at : List.Nodup n_thing_at := sc_thing_at.nd
/-! scan(text): 0 text 1 things 2 at 3 thing 4 mistake -/
abbrev s_scan : Stmt := topS 24
abbrev n_scan : List Str := ["text", "things", "at", "thing", "mistake"]
theorem sc_scan : FnScope n_scan ["text"] (defScope s_scan) := ⟨rfl, rfl, rfl, by decide +kernel, rfl, by decide +kernel, by decide +kernel⟩
theorem nd_scan : List.Nodup n_scan := sc_scan.nd
/-! words(text): 0 text 1 things 2 mistake -/
abbrev s_words : Stmt := topS 25
abbrev n_words : List Str := ["text", "things", "mistake"]
theorem sc_words : FnScope n_words ["text"] (defScope s_words) := ⟨rfl, rfl, rfl, by decide +kernel, rfl, by decide +kernel, by decide +kernel⟩
theorem nd_words : List.Nodup n_words := sc_words.nd
/-! _law_cell(script, k): 0 script 1 k -/
abbrev s_law_cell : Stmt := topS 27
abbrev n_law_cell : List Str := ["script", "k"]
theorem sc_law_cell : FnScope n_law_cell ["script", "k"] (defScope s_law_cell) := ⟨rfl, rfl, rfl, by decide +kernel, rfl, by decide +kernel, by decide +kernel⟩
theorem nd_law_cell : List.Nodup n_law_cell := sc_law_cell.nd
/-! _law_mixed(cell, k): 0 cell 1 k 2 x -/
abbrev s_law_mixed : Stmt := topS 28
abbrev n_law_mixed : List Str := ["cell", "k", "x"]
theorem sc_law_mixed : FnScope n_law_mixed ["cell", "k"] (defScope s_law_mixed) := ⟨rfl, rfl, rfl, by decide +kernel, rfl, by decide +kernel, by decide +kernel⟩
theorem nd_law_mixed : List.Nodup n_law_mixed := sc_law_mixed.nd
/-! _law_draws(cell, many): 0 cell 1 many 2 draws 3 rest 4 large 5 k -/
abbrev s_law_draws : Stmt := topS 29
abbrev n_law_draws : List Str := ["cell", "many", "draws", "rest", "large", "k"]
theorem sc_law_draws : FnScope n_law_draws ["cell", "many"] (defScope s_law_draws) := ⟨rfl, rfl, rfl, by decide +kernel, rfl, by decide +kernel, by decide +kernel⟩
theorem nd_law_draws : List.Nodup n_law_draws := sc_law_draws.nd
/-! _law_signs(): 0 signs -/
abbrev s_law_signs : Stmt := topS 30
abbrev n_law_signs : List Str := ["signs"]
theorem sc_law_signs : FnScope n_law_signs [] (defScope s_law_signs) := ⟨rfl, rfl, rfl, by decide +kernel, rfl, by decide +kernel, by decide +kernel⟩
theorem nd_law_signs : List.Nodup n_law_signs := sc_law_signs.nd
/-! _law_text(draws, size): 0 draws 1 size 2 signs 3 many 4 k -/
abbrev s_law_text : Stmt := topS 31
abbrev n_law_text : List Str := ["draws", "size", "signs", "many", "k"]
theorem sc_law_text : FnScope n_law_text ["draws", "size"] (defScope s_law_text) := ⟨rfl, rfl, rfl, by decide +kernel, rfl, by decide +kernel, by decide +kernel⟩
theorem nd_law_text : List.Nodup n_law_text := sc_law_text.nd
/-! _law_reserved(): 0 names -/
abbrev s_law_reserved : Stmt := topS 32
abbrev n_law_reserved : List Str := ["names"]
theorem sc_law_reserved : FnScope n_law_reserved [] (defScope s_law_reserved) := ⟨rfl, rfl, rfl, by decide +kernel, rfl, by decide +kernel, by decide +kernel⟩
theorem nd_law_reserved : List.Nodup n_law_reserved := sc_law_reserved.nd
/-! _law_cased(word, draw): 0 word 1 draw 2 out 3 k -/
abbrev s_law_cased : Stmt := topS 33
abbrev n_law_cased : List Str := ["word", "draw", "out", "k"]
theorem sc_law_cased : FnScope n_law_cased ["word", "draw"] (defScope s_law_cased) := ⟨rfl, rfl, rfl, by decide +kernel, rfl, by decide +kernel, by decide +kernel⟩
theorem nd_law_cased : List.Nodup n_law_cased := sc_law_cased.nd
/-! _law_word(draws): 0 draws 1 size 2 small 3 out 4 k -/
abbrev s_law_word : Stmt := topS 34
abbrev n_law_word : List Str := ["draws", "size", "small", "out", "k"]
theorem sc_law_word : FnScope n_law_word ["draws"] (defScope s_law_word) := ⟨rfl, rfl, rfl, by decide +kernel, rfl, by decide +kernel, by decide +kernel⟩
theorem nd_law_word : List.Nodup n_law_word := sc_law_word.nd
/-! _law_thing(draws): 0 draws 1 way 2 word 3 figures 4 text 5 marks 6 mark -/
abbrev s_law_thing : Stmt := topS 35
abbrev n_law_thing : List Str := ["draws", "way", "word", "figures", "text", "marks", "mark"]
theorem sc_law_thing : FnScope n_law_thing ["draws"] (defScope s_law_thing) := ⟨rfl, rfl, rfl, by decide +kernel, rfl, by decide +kernel, by decide +kernel⟩
theorem nd_law_thing : List.Nodup n_law_thing := sc_law_thing.nd
/-! _law_no_word(draws): 0 draws 1 way 2 word 3 name 4 at -/
abbrev s_law_no_word : Stmt := topS 37
abbrev n_law_no_word : List Str := ["draws", "way", "word", "name", "at"]
theorem sc_law_no_word : FnScope n_law_no_word ["draws"] (defScope s_law_no_word) := ⟨rfl, rfl, rfl, by decide +kernel, rfl, by decide +kernel, by decide +kernel⟩
theorem nd_law_no_word : List.Nodup n_law_no_word := sc_law_no_word.nd
/-! _law_odd_signs():  -/
abbrev s_law_odd_signs : Stmt := topS 39
abbrev n_law_odd_signs : List Str := []
theorem sc_law_odd_signs : FnScope n_law_odd_signs [] (defScope s_law_odd_signs) := ⟨rfl, rfl, rfl, by decide +kernel, rfl, by decide +kernel, by decide +kernel⟩
theorem nd_law_odd_signs : List.Nodup n_law_odd_signs := sc_law_odd_signs.nd
/-! _law_mistake(draws): 0 draws 1 way 2 text 3 plain 4 at -/
abbrev s_law_mistake : Stmt := topS 38
abbrev n_law_mistake : List Str := ["draws", "way", "text", "plain", "at"]
theorem sc_law_mistake : FnScope n_law_mistake ["draws"] (defScope s_law_mistake) := ⟨rfl, rfl, rfl, by decide +kernel, rfl, by decide +kernel, by decide +kernel⟩
theorem nd_law_mistake : List.Nodup n_law_mistake := sc_law_mistake.nd
/-! _law_refused(text, at): 0 text 1 at 2 e -/
abbrev s_law_refused : Stmt := topS 40
abbrev n_law_refused : List Str := ["text", "at", "e"]
theorem sc_law_refused : FnScope n_law_refused ["text", "at"] (defScope s_law_refused) := ⟨rfl, rfl, rfl, by decide +kernel, rfl, by decide +kernel, by decide +kernel⟩
theorem nd_law_refused : List.Nodup n_law_refused := sc_law_refused.nd
/-! law(script): 0 script 1 text 2 many 3 k 4 thing 5 draws 6 mistake 7 behind -/
abbrev s_law : Stmt := topS 41
abbrev n_law : List Str := ["script", "text", "many", "k", "thing", "draws", "mistake", "behind"]
theorem sc_law : FnScope n_law ["script"] (defScope s_law) := ⟨rfl, rfl, rfl, by decide +kernel, rfl, by decide +kernel, by decide +kernel⟩
theorem nd_law : List.Nodup n_law := sc_law.nd
abbrev si_BadText : Stmt := inS 2 0
theorem ci_BadText : FnScope ["self", "at"] ["self", "at"] (defScope si_BadText) := ⟨rfl, rfl, rfl, by decide +kernel, rfl, by decide +kernel, by decide +kernel⟩
def k_MARKS : PyData := (.tuple [(.str (Str.ofString "<>")), (.str (Str.ofString "<=")), (.str (Str.ofString ">=")), (.str (Str.ofString "||")), (.str (Str.ofString "(")), (.str (Str.ofString ")")), (.str (Str.ofString ",")), (.str (Str.ofString ".")), (.str (Str.ofString "*")), (.str (Str.ofString "+")), (.str (Str.ofString "-")), (.str (Str.ofString "/")), (.str (Str.ofString "=")), (.str (Str.ofString "<")), (.str (Str.ofString ">"))])
def k_RESERVED : PyData := (.tuple [(.str (Str.ofString "SELECT")), (.str (Str.ofString "DISTINCT")), (.str (Str.ofString "FROM")), (.str (Str.ofString "WHERE")), (.str (Str.ofString "GROUP")), (.str (Str.ofString "BY")), (.str (Str.ofString "HAVING")), (.str (Str.ofString "ORDER")), (.str (Str.ofString "LIMIT")), (.str (Str.ofString "OFFSET")), (.str (Str.ofString "AS")), (.str (Str.ofString "JOIN")), (.str (Str.ofString "INNER")), (.str (Str.ofString "LEFT")), (.str (Str.ofString "RIGHT")), (.str (Str.ofString "FULL")), (.str (Str.ofString "CROSS")), (.str (Str.ofString "ON")), (.str (Str.ofString "UNION")), (.str (Str.ofString "INTERSECT")), (.str (Str.ofString "EXCEPT")), (.str (Str.ofString "ALL")), (.str (Str.ofString "VALUES")), (.str (Str.ofString "WITH")), (.str (Str.ofString "AND")), (.str (Str.ofString "OR")), (.str (Str.ofString "NOT")), (.str (Str.ofString "IS")), (.str (Str.ofString "NULL")), (.str (Str.ofString "TRUE")), (.str (Str.ofString "FALSE")), (.str (Str.ofString "IN")), (.str (Str.ofString "EXISTS")), (.str (Str.ofString "BETWEEN")), (.str (Str.ofString "LIKE")), (.str (Str.ofString "CASE")), (.str (Str.ofString "WHEN")), (.str (Str.ofString "THEN")), (.str (Str.ofString "ELSE")), (.str (Str.ofString "END")), (.str (Str.ofString "ASC")), (.str (Str.ofString "DESC")), (.str (Str.ofString "NULLS")), (.str (Str.ofString "FIRST")), (.str (Str.ofString "LAST")), (.str (Str.ofString "OVER")), (.str (Str.ofString "PARTITION")), (.str (Str.ofString "ROWS")), (.str (Str.ofString "PRECEDING")), (.str (Str.ofString "FOLLOWING")), (.str (Str.ofString "UNBOUNDED")), (.str (Str.ofString "CURRENT")), (.str (Str.ofString "ROW"))])
structure Tx (w : World) (K : PySem.W.Frag) (mg : Str → Option Value) where
  a_is_figure : Addr
  d_is_figure : FuncData
  F_is_figure : Fun K "is_figure" "is_figure" s_is_figure a_is_figure d_is_figure
  g_is_figure : mg "is_figure" = some (.ref a_is_figure)
  b_is_figure : Binds K d_is_figure ["sign"] []
  a_is_letter : Addr
  d_is_letter : FuncData
  F_is_letter : Fun K "is_letter" "is_letter" s_is_letter a_is_letter d_is_letter
  g_is_letter : mg "is_letter" = some (.ref a_is_letter)
  b_is_letter : Binds K d_is_letter ["sign"] []
  a_is_reserved : Addr
  d_is_reserved : FuncData
  F_is_reserved : Fun K "is_reserved" "is_reserved" s_is_reserved a_is_reserved d_is_reserved
  g_is_reserved : mg "is_reserved" = some (.ref a_is_reserved)
  b_is_reserved : Binds K d_is_reserved ["word"] []
  a_is_name : Addr
  d_is_name : FuncData
  F_is_name : Fun K "is_name" "is_name" s_is_name a_is_name d_is_name
  g_is_name : mg "is_name" = some (.ref a_is_name)
  b_is_name : Binds K d_is_name ["x"] []
  a_is_text : Addr
  d_is_text : FuncData
  F_is_text : Fun K "is_text" "is_text" s_is_text a_is_text d_is_text
  g_is_text : mg "is_text" = some (.ref a_is_text)
  b_is_text : Binds K d_is_text ["x"] []
  a_word_at : Addr
  d_word_at : FuncData
  F_word_at : Fun K "word_at" "word_at" s_word_at a_word_at d_word_at
  g_word_at : mg "word_at" = some (.ref a_word_at)
  b_word_at : Binds K d_word_at ["text", "at"] []
  a_number_at : Addr
  d_number_at : FuncData
  F_number_at : Fun K "number_at" "number_at" s_number_at a_number_at d_number_at
  g_number_at : mg "number_at" = some (.ref a_number_at)
  b_number_at : Binds K d_number_at ["text", "at"] []
  a_text_at : Addr
  d_text_at : FuncData
  F_text_at : Fun K "text_at" "text_at" s_text_at a_text_at d_text_at
  g_text_at : mg "text_at" = some (.ref a_text_at)
  b_text_at : Binds K d_text_at ["text", "at"] []
  a_mark_at : Addr
  d_mark_at : FuncData
  F_mark_at : Fun K "mark_at" "mark_at" s_mark_at a_mark_at d_mark_at
  g_mark_at : mg "mark_at" = some (.ref a_mark_at)
  b_mark_at : Binds K d_mark_at ["text", "at"] []
  a_thing_at : Addr
  d_thing_at : FuncData
  F_thing_at : Fun K "thing_at" "thing_at" s_thing_at a_thing_at d_thing_at
  g_thing_at : mg "thing_at" = some (.ref a_thing_at)
  b_thing_at : Binds K d_thing_at ["text", "at"] []
  a_scan : Addr
  d_scan : FuncData
  F_scan : Fun K "scan" "scan" s_scan a_scan d_scan
  g_scan : mg "scan" = some (.ref a_scan)
  b_scan : Binds K d_scan ["text"] []
  a_words : Addr
  d_words : FuncData
  F_words : Fun K "words" "words" s_words a_words d_words
  g_words : mg "words" = some (.ref a_words)
  b_words : Binds K d_words ["text"] []
  a_law_cell : Addr
  d_law_cell : FuncData
  F_law_cell : Fun K "_law_cell" "_law_cell" s_law_cell a_law_cell d_law_cell
  g_law_cell : mg "_law_cell" = some (.ref a_law_cell)
  b_law_cell : Binds K d_law_cell ["script", "k"] []
  a_law_mixed : Addr
  d_law_mixed : FuncData
  F_law_mixed : Fun K "_law_mixed" "_law_mixed" s_law_mixed a_law_mixed d_law_mixed
  g_law_mixed : mg "_law_mixed" = some (.ref a_law_mixed)
  b_law_mixed : Binds K d_law_mixed ["cell", "k"] []
  a_law_draws : Addr
  d_law_draws : FuncData
  F_law_draws : Fun K "_law_draws" "_law_draws" s_law_draws a_law_draws d_law_draws
  g_law_draws : mg "_law_draws" = some (.ref a_law_draws)
  b_law_draws : Binds K d_law_draws ["cell", "many"] []
  a_law_signs : Addr
  d_law_signs : FuncData
  F_law_signs : Fun K "_law_signs" "_law_signs" s_law_signs a_law_signs d_law_signs
  g_law_signs : mg "_law_signs" = some (.ref a_law_signs)
  b_law_signs : Binds K d_law_signs [] []
  a_law_text : Addr
  d_law_text : FuncData
  F_law_text : Fun K "_law_text" "_law_text" s_law_text a_law_text d_law_text
  g_law_text : mg "_law_text" = some (.ref a_law_text)
  b_law_text : Binds K d_law_text ["draws", "size"] []
  a_law_reserved : Addr
  d_law_reserved : FuncData
  F_law_reserved : Fun K "_law_reserved" "_law_reserved" s_law_reserved a_law_reserved d_law_reserved
  g_law_reserved : mg "_law_reserved" = some (.ref a_law_reserved)
  b_law_reserved : Binds K d_law_reserved [] []
  a_law_cased : Addr
  d_law_cased : FuncData
  F_law_cased : Fun K "_law_cased" "_law_cased" s_law_cased a_law_cased d_law_cased
  g_law_cased : mg "_law_cased" = some (.ref a_law_cased)
  b_law_cased : Binds K d_law_cased ["word", "draw"] []
  a_law_word : Addr
  d_law_word : FuncData
  F_law_word : Fun K "_law_word" "_law_word" s_law_word a_law_word d_law_word
  g_law_word : mg "_law_word" = some (.ref a_law_word)
  b_law_word : Binds K d_law_word ["draws"] []
  a_law_thing : Addr
  d_law_thing : FuncData
  F_law_thing : Fun K "_law_thing" "_law_thing" s_law_thing a_law_thing d_law_thing
  g_law_thing : mg "_law_thing" = some (.ref a_law_thing)
  b_law_thing : Binds K d_law_thing ["draws"] []
  a_law_no_word : Addr
  d_law_no_word : FuncData
  F_law_no_word : Fun K "_law_no_word" "_law_no_word" s_law_no_word a_law_no_word d_law_no_word
  g_law_no_word : mg "_law_no_word" = some (.ref a_law_no_word)
  b_law_no_word : Binds K d_law_no_word ["draws"] []
  a_law_odd_signs : Addr
  d_law_odd_signs : FuncData
  F_law_odd_signs : Fun K "_law_odd_signs" "_law_odd_signs" s_law_odd_signs a_law_odd_signs d_law_odd_signs
  g_law_odd_signs : mg "_law_odd_signs" = some (.ref a_law_odd_signs)
  b_law_odd_signs : Binds K d_law_odd_signs [] []
  a_law_mistake : Addr
  d_law_mistake : FuncData
  F_law_mistake : Fun K "_law_mistake" "_law_mistake" s_law_mistake a_law_mistake d_law_mistake
  g_law_mistake : mg "_law_mistake" = some (.ref a_law_mistake)
  b_law_mistake : Binds K d_law_mistake ["draws"] []
  a_law_refused : Addr
  d_law_refused : FuncData
  F_law_refused : Fun K "_law_refused" "_law_refused" s_law_refused a_law_refused d_law_refused
  g_law_refused : mg "_law_refused" = some (.ref a_law_refused)
  b_law_refused : Binds K d_law_refused ["text", "at"] []
  a_law : Addr
  d_law : FuncData
  F_law : Fun K "law" "law" s_law a_law d_law
  g_law : mg "law" = some (.ref a_law)
  b_law : Binds K d_law ["script"] []
  n_ValueError : mg "ValueError" = none
  n_abs : mg "abs" = none
  n_bool : mg "bool" = none
  n_int : mg "int" = none
  n_isinstance : mg "isinstance" = none
  n_len : mg "len" = none
  n_max : mg "max" = none
  n_ord : mg "ord" = none
  n_range : mg "range" = none
  n_str : mg "str" = none
  xa_BadForm : Addr
  xg_BadForm : mg "BadForm" = some (.ref xa_BadForm)
  xa_BadText : Addr
  xg_BadText : mg "BadText" = some (.ref xa_BadText)
  xf_BadText : Addr
  xd_BadText : FuncData
  xF_BadText : L2.Fun K "__init__" "BadText.__init__" si_BadText xf_BadText xd_BadText
  xp_BadText : ExAt K mg "BadText" xa_BadText xf_BadText
  xb_BadText : Binds K xd_BadText ["self", "at"] []
  xa_PeristyleError : Addr
  xg_PeristyleError : mg "PeristyleError" = some (.ref xa_PeristyleError)
  xa_TooMuch : Addr
  xg_TooMuch : mg "TooMuch" = some (.ref xa_TooMuch)
  xk_BadText : CatchT K mg xa_BadText [("BadText", true)]
  xi_BadForm : IsT K mg (.ref xa_BadForm) [("BadText", false)]
  xi_PeristyleError : IsT K mg (.ref xa_PeristyleError) [("BadText", true)]
  xi_TooMuch : IsT K mg (.ref xa_TooMuch) [("BadText", false)]
  xi_ValueError : IsT K mg (.type "ValueError") [("BadText", true)]
  x_ats : AtT K mg ["BadText"]
  c_LONGEST : ∃ t, mg "LONGEST" = some (.int 200 t)
  c_LONGEST_NAME : ∃ t, mg "LONGEST_NAME" = some (.int 20 t)
  c_MARKS : ∃ a, mg "MARKS" = some (.ref a) ∧ ∀ F, Den K F (.ref a) k_MARKS
  c_MOST_FIGURES : ∃ t, mg "MOST_FIGURES" = some (.int 18 t)
  c_PERCENT : ∃ t, mg "PERCENT" = some (.int 37 t)
  c_RESERVED : ∃ a, mg "RESERVED" = some (.ref a) ∧ ∀ F, Den K F (.ref a) k_RESERVED
theorem I_BadText {P : Program} {w : World} {K : PySem.W.Frag} {mg : Str → Option Value} {base : Heap} (T : Tx w K mg) : FnOk P w K mg base (L2.CX P w) 1 T.xf_BadText T.xd_BadText ["self", "at"] (spI K T.xa_BadText) := init_ok T.xF_BadText ci_BadText rfl T.xp_BadText.ox T.xp_BadText.no
def g_is_figure : Sls → Out :=
    (gRet (dChain leD leD (fun _ => .ok (.str (Str.ofString "0"))) (dVar 0) (fun _ => .ok (.str (Str.ofString "9")))))
@[simp] theorem st_is_figure (x0 : PyData) : st0 n_is_figure [x0] = [.val x0] := rfl
def m_is_figure (ds : List PyData) : Res PyData := outR (g_is_figure (st0 n_is_figure ds))
theorem D_is_figure {P : Program} {w : World} {K : PySem.W.Frag} {mg : Str → Option Value} {base : Heap} (T : Tx w K mg) : FnD P w K mg base 1 T.a_is_figure T.d_is_figure ["sign"] m_is_figure :=
  fn_D (g := g_is_figure) T.F_is_figure sc_is_figure (by decide) (fun cdv A outer s H E Fz c =>
      (dss_one (ds_ret (de_chain op_leD op_leD de_str (de_var (pv 0)) de_str)))) fun ds _ => .inr rfl
def g_is_letter : Sls → Out :=
    (gRet (dOrV (dChain leD leD (fun _ => .ok (.str (Str.ofString "a"))) (dVar 0) (fun _ => .ok (.str (Str.ofString "z")))) (dChain leD leD (fun _ => .ok (.str (Str.ofString "A"))) (dVar 0) (fun _ => .ok (.str (Str.ofString "Z"))))))
@[simp] theorem st_is_letter (x0 : PyData) : st0 n_is_letter [x0] = [.val x0] := rfl
def m_is_letter (ds : List PyData) : Res PyData := outR (g_is_letter (st0 n_is_letter ds))
theorem D_is_letter {P : Program} {w : World} {K : PySem.W.Frag} {mg : Str → Option Value} {base : Heap} (T : Tx w K mg) : FnD P w K mg base 1 T.a_is_letter T.d_is_letter ["sign"] m_is_letter :=
  fn_D (g := g_is_letter) T.F_is_letter sc_is_letter (by decide) (fun cdv A outer s H E Fz c =>
      (dss_one (ds_ret (de_or (de_chain op_leD op_leD de_str (de_var (pv 0)) de_str) (de_one (de_chain op_leD op_leD de_str (de_var (pv 0)) de_str)))))) fun ds _ => .inr rfl
def g_is_reserved : Sls → Out :=
    (gRet (d2 inD (dM upperD (dVar 0) dNil) (fun _ => .ok k_RESERVED)))
@[simp] theorem st_is_reserved (x0 : PyData) : st0 n_is_reserved [x0] = [.val x0] := rfl
def m_is_reserved (ds : List PyData) : Res PyData := outR (g_is_reserved (st0 n_is_reserved ds))
theorem D_is_reserved {P : Program} {w : World} {K : PySem.W.Frag} {mg : Str → Option Value} {base : Heap} (T : Tx w K mg) : FnD P w K mg base 1 T.a_is_reserved T.d_is_reserved ["word"] m_is_reserved :=
  fn_D (g := g_is_reserved) T.F_is_reserved sc_is_reserved (by decide) (fun cdv A outer s H E Fz c =>
      (dss_one (ds_ret (de_cmp op_inV (de_sm0 PySem.F.slot_str_upper PySem.F.type_str_upper mt_upperD (de_var (pv 0))) (de_globR (by rfl) T.c_RESERVED) (by rfl))))) fun ds _ => .inr rfl
def b1_is_name : Sls → Out :=
    (gIf (dNot (dOr (dB (dChain leD leD (fun _ => .ok (.str (Str.ofString "a"))) (dVar 1) (fun _ => .ok (.str (Str.ofString "z"))))) (dOr (dTru (dCall m_is_figure (dCons (dVar 1) dNil))) (dB (d2 eqD (dVar 1) (fun _ => .ok (.str (Str.ofString "_"))))))))
    (gRet (fun _ => .ok (.bool false)))
    gNext)
def g_is_name : Sls → Out :=
    (gSeq (gIf (dOr (dNot (dTru (d1 (isi1 isStr) (dVar 0)))) (dNot (dB (dChain leD leD (fun _ => .ok (.int 1)) (dL lenD (dCons (dVar 0) dNil)) (fun _ => .ok (.int 20))))))
    (gRet (fun _ => .ok (.bool false)))
    gNext)
    (gSeq (gIf (dNot (dB (dChain leD leD (fun _ => .ok (.str (Str.ofString "a"))) (d2 ixD (dVar 0) (fun _ => .ok (.int 0))) (fun _ => .ok (.str (Str.ofString "z"))))))
    (gRet (fun _ => .ok (.bool false)))
    gNext)
    (gSeq (gFor (dItems (dVar 0)) (bName 1)
    b1_is_name)
    (gRet (d1 notD (dCall m_is_reserved (dCons (dVar 0) dNil)))))))
@[simp] theorem st_is_name (x0 : PyData) : st0 n_is_name [x0] = [.val x0, .un] := rfl
def m_is_name (ds : List PyData) : Res PyData := outR (g_is_name (st0 n_is_name ds))
theorem D_is_name {P : Program} {w : World} {K : PySem.W.Frag} {mg : Str → Option Value} {base : Heap} (T : Tx w K mg) : FnD P w K mg base 2 T.a_is_name T.d_is_name ["x"] m_is_name :=
  have D_is_figure := D_is_figure (P := P) (w := w) (base := base) T
  have D_is_reserved := D_is_reserved (P := P) (w := w) (base := base) T
  fn_D (g := g_is_name) T.F_is_name sc_is_name (by decide) (fun cdv A outer s H E Fz c =>
      (dss_cons (ds_if (DW.dt (dw_or (dt_not (dt_truth (de_isi isi_str (by rfl) T.n_isinstance (by decide +kernel) (by rfl) T.n_str (by decide +kernel) (de_var (pv 0))))) (dw_or1 (dt_not (dt_chain op_leD op_leD de_int (de_callB call_lenV (by rfl) T.n_len (by decide +kernel) (da_cons (de_var (pv 0)) da_nil)) (de_globI (by rfl) T.c_LONGEST_NAME)))))) (dss_one (ds_ret de_bl)) dss_nil)
      (dss_cons (ds_if (dt_not (dt_chain op_leD op_leD de_str (de_ix ix_D (de_var (pv 0)) de_int (fun _ _ => rfl)) de_str)) (dss_one (ds_ret de_bl)) dss_nil)
      (dss_cons (ds_for c (di_any (de_var (pv 0))) (dg_name nd_is_name (i := 1) rfl (by first | exact .inl rfl | exact .inr rfl)) (dss_one (ds_if (dt_not (DW.dt (dw_or (dt_chain op_leD op_leD de_str (de_var (pv 1)) de_str) (dw_or (dt_truth (de_call D_is_figure c (by decide) (by rfl) T.g_is_figure T.F_is_figure.kp T.b_is_figure (da_cons (de_var (pv 1)) da_nil) (dCons_len nil_len))) (dw_or1 (dt_cmp (op_eqV c.room.units) (de_var (pv 1)) de_str (nomark _))))))) (dss_one (ds_ret de_bl)) dss_nil)))
      (dss_one (ds_ret (de_not (de_call D_is_reserved c (by decide) (by rfl) T.g_is_reserved T.F_is_reserved.kp T.b_is_reserved (da_cons (de_var (pv 0)) da_nil) (dCons_len nil_len))))))))) fun ds _ => .inr rfl
def b1_is_text : Sls → Out :=
    (gIf (dOr (dNot (dB (dChain leD leD (fun _ => .ok (.str (Str.ofString " "))) (dVar 1) (fun _ => .ok (.str (Str.ofString "~")))))) (dB (d2 eqD (dL ordD (dCons (dVar 1) dNil)) (fun _ => .ok (.int 37)))))
    (gRet (fun _ => .ok (.bool false)))
    gNext)
def g_is_text : Sls → Out :=
    (gSeq (gIf (dOr (dNot (dTru (d1 (isi1 isStr) (dVar 0)))) (dB (d2 gtV (dL lenD (dCons (dVar 0) dNil)) (fun _ => .ok (.int 200)))))
    (gRet (fun _ => .ok (.bool false)))
    gNext)
    (gSeq (gFor (dItems (dVar 0)) (bName 1)
    b1_is_text)
    (gRet (fun _ => .ok (.bool true)))))
@[simp] theorem st_is_text (x0 : PyData) : st0 n_is_text [x0] = [.val x0, .un] := rfl
def m_is_text (ds : List PyData) : Res PyData := outR (g_is_text (st0 n_is_text ds))
theorem D_is_text {P : Program} {w : World} {K : PySem.W.Frag} {mg : Str → Option Value} {base : Heap} (T : Tx w K mg) : FnD P w K mg base 1 T.a_is_text T.d_is_text ["x"] m_is_text :=
  fn_D (g := g_is_text) T.F_is_text sc_is_text (by decide) (fun cdv A outer s H E Fz c =>
      (dss_cons (ds_if (DW.dt (dw_or (dt_not (dt_truth (de_isi isi_str (by rfl) T.n_isinstance (by decide +kernel) (by rfl) T.n_str (by decide +kernel) (de_var (pv 0))))) (dw_or1 (dt_cmp (op_gtV c.room.units) (de_callB call_lenV (by rfl) T.n_len (by decide +kernel) (da_cons (de_var (pv 0)) da_nil)) (de_globI (by rfl) T.c_LONGEST) (nomark _))))) (dss_one (ds_ret de_bl)) dss_nil)
      (dss_cons (ds_for c (di_any (de_var (pv 0))) (dg_name nd_is_text (i := 1) rfl (by first | exact .inl rfl | exact .inr rfl)) (dss_one (ds_if (DW.dt (dw_or (dt_not (dt_chain op_leD op_leD de_str (de_var (pv 1)) de_str)) (dw_or1 (dt_cmp (op_eqV c.room.units) (de_callB call_ordV (by rfl) T.n_ord (by decide +kernel) (da_cons (de_var (pv 1)) da_nil)) (de_globI (by rfl) T.c_PERCENT) (nomark _))))) (dss_one (ds_ret de_bl)) dss_nil)))
      (dss_one (ds_ret de_bl))))) fun ds _ => .inr rfl
def w_word_at_45 : Sls → Nat := fun _ => 1000000
def b1_word_at : Sls → Out :=
    (gAug 2 iaddD (fun _ => .ok (.int 1)))
def t2_word_at : Sls → Res Bool :=
    (dAnd (dB (d2 ltV (dVar 2) (dL lenD (dCons (dVar 0) dNil)))) (dOr (dTru (dCall m_is_letter (dCons (d2 ixD (dVar 0) (dVar 2)) dNil))) (dOr (dTru (dCall m_is_figure (dCons (d2 ixD (dVar 0) (dVar 2)) dNil))) (dB (d2 eqD (d2 ixD (dVar 0) (dVar 2)) (fun _ => .ok (.str (Str.ofString "_"))))))))
def g_word_at : Sls → Out :=
    (gSeq (gSet 2 (dVar 1))
    (gSeq (gWhile w_word_at_45 t2_word_at
    b1_word_at)
    (gSeq (gSet 3 (dSl slD (dVar 0) (dPart (dVar 1)) (dPart (dVar 2))))
    (gSeq (gIf (dOr (dB (d2 gtV (dL lenD (dCons (dVar 3) dNil)) (fun _ => .ok (.int 20)))) (dNot (dOr (dTru (dCall m_is_reserved (dCons (dVar 3) dNil))) (dTru (dCall m_is_name (dCons (dVar 3) dNil))))))
    (gRet (dL tupD (dCons (dL tupD (dCons (fun _ => .ok (.str (Str.ofString "word"))) (dCons (dVar 3) (dCons (dVar 1) dNil)))) (dCons (dVar 2) (dCons (dVar 1) dNil)))))
    gNext)
    (gRet (dL tupD (dCons (dL tupD (dCons (fun _ => .ok (.str (Str.ofString "word"))) (dCons (dVar 3) (dCons (dVar 1) dNil)))) (dCons (dVar 2) (dCons (d1 negD (fun _ => .ok (.int 1))) dNil)))))))))
@[simp] theorem st_word_at (x0 x1 : PyData) : st0 n_word_at [x0, x1] = [.val x0, .val x1, .un, .un] := rfl
def m_word_at (ds : List PyData) : Res PyData := outR (g_word_at (st0 n_word_at ds))
theorem D_word_at {P : Program} {w : World} {K : PySem.W.Frag} {mg : Str → Option Value} {base : Heap} (T : Tx w K mg) : FnD P w K mg base 3 T.a_word_at T.d_word_at ["text", "at"] m_word_at :=
  have D_is_letter := D_is_letter (P := P) (w := w) (base := base) T
  have D_is_figure := D_is_figure (P := P) (w := w) (base := base) T
  have D_is_reserved := D_is_reserved (P := P) (w := w) (base := base) T
  have D_is_name := D_is_name (P := P) (w := w) (base := base) T
  fn_D (g := g_word_at) T.F_word_at sc_word_at (by decide) (fun cdv A outer s H E Fz c =>
      (dss_cons (ds_set nd_word_at (i := 2) rfl (by first | exact .inl rfl | exact .inr rfl) (de_var (pv 1)))
      (dss_cons (ds_while w_word_at_45 c (DW.dt (dw_and (dt_cmp (op_ltV c.room.units) (de_var (pv 2)) (de_callB call_lenV (by rfl) T.n_len (by decide +kernel) (da_cons (de_var (pv 0)) da_nil)) (nomark _)) (dw_and1 (DW.dt (dw_or (dt_truth (de_call D_is_letter c (by decide) (by rfl) T.g_is_letter T.F_is_letter.kp T.b_is_letter (da_cons (de_ix ix_D (de_var (pv 0)) (de_var (pv 2)) (fun _ _ => rfl)) da_nil) (dCons_len nil_len))) (dw_or (dt_truth (de_call D_is_figure c (by decide) (by rfl) T.g_is_figure T.F_is_figure.kp T.b_is_figure (da_cons (de_ix ix_D (de_var (pv 0)) (de_var (pv 2)) (fun _ _ => rfl)) da_nil) (dCons_len nil_len))) (dw_or1 (dt_cmp (op_eqV c.room.units) (de_ix ix_D (de_var (pv 0)) (de_var (pv 2)) (fun _ _ => rfl)) de_str (nomark _))))))))) (dss_one (ds_aug nd_word_at (i := 2) rfl (by first | exact .inl rfl | exact .inr rfl) de_int iop_addD)))
      (dss_cons (ds_set nd_word_at (i := 3) rfl (by first | exact .inl rfl | exact .inr rfl) (de_slice sl_D (de_var (pv 0)) (do_some (de_var (pv 1))) (do_some (de_var (pv 2)))))
      (dss_cons (ds_if (DW.dt (dw_or (dt_cmp (op_gtV c.room.units) (de_callB call_lenV (by rfl) T.n_len (by decide +kernel) (da_cons (de_var (pv 3)) da_nil)) (de_globI (by rfl) T.c_LONGEST_NAME) (nomark _)) (dw_or1 (dt_not (DW.dt (dw_or (dt_truth (de_call D_is_reserved c (by decide) (by rfl) T.g_is_reserved T.F_is_reserved.kp T.b_is_reserved (da_cons (de_var (pv 3)) da_nil) (dCons_len nil_len))) (dw_or1 (dt_truth (de_call D_is_name c (by decide) (by rfl) T.g_is_name T.F_is_name.kp T.b_is_name (da_cons (de_var (pv 3)) da_nil) (dCons_len nil_len)))))))))) (dss_one (ds_ret (de_tup (da_cons (de_tup (da_cons de_str (da_cons (de_var (pv 3)) (da_cons (de_var (pv 1)) da_nil)))) (da_cons (de_var (pv 2)) (da_cons (de_var (pv 1)) da_nil)))))) dss_nil)
      (dss_one (ds_ret (de_tup (da_cons (de_tup (da_cons de_str (da_cons (de_var (pv 3)) (da_cons (de_var (pv 1)) da_nil)))) (da_cons (de_var (pv 2)) (da_cons (de_un un_negD de_int) da_nil))))))))))) fun ds _ => .inr rfl
def w_number_at_53 : Sls → Nat := fun _ => 1000000
def b1_number_at : Sls → Out :=
    (gAug 2 iaddD (fun _ => .ok (.int 1)))
def t2_number_at : Sls → Res Bool :=
    (dAnd (dB (d2 ltV (dVar 2) (dL lenD (dCons (dVar 0) dNil)))) (dTru (dCall m_is_figure (dCons (d2 ixD (dVar 0) (dVar 2)) dNil))))
def g_number_at : Sls → Out :=
    (gSeq (gSet 2 (dVar 1))
    (gSeq (gWhile w_number_at_53 t2_number_at
    b1_number_at)
    (gSeq (gIf (dB (d2 gtV (d2 subD (dVar 2) (dVar 1)) (fun _ => .ok (.int 18))))
    (gRet (dL tupD (dCons (dL tupD (dCons (fun _ => .ok (.str (Str.ofString "number"))) (dCons (fun _ => .ok (.int 0)) (dCons (dVar 1) dNil)))) (dCons (dVar 2) (dCons (dVar 1) dNil)))))
    gNext)
    (gRet (dL tupD (dCons (dL tupD (dCons (fun _ => .ok (.str (Str.ofString "number"))) (dCons (dL intXD (dCons (dSl slD (dVar 0) (dPart (dVar 1)) (dPart (dVar 2))) dNil)) (dCons (dVar 1) dNil)))) (dCons (dVar 2) (dCons (d1 negD (fun _ => .ok (.int 1))) dNil))))))))
@[simp] theorem st_number_at (x0 x1 : PyData) : st0 n_number_at [x0, x1] = [.val x0, .val x1, .un] := rfl
def m_number_at (ds : List PyData) : Res PyData := outR (g_number_at (st0 n_number_at ds))
theorem D_number_at {P : Program} {w : World} {K : PySem.W.Frag} {mg : Str → Option Value} {base : Heap} (T : Tx w K mg) : FnD P w K mg base 2 T.a_number_at T.d_number_at ["text", "at"] m_number_at :=
  have D_is_figure := D_is_figure (P := P) (w := w) (base := base) T
  fn_D (g := g_number_at) T.F_number_at sc_number_at (by decide) (fun cdv A outer s H E Fz c =>
      (dss_cons (ds_set nd_number_at (i := 2) rfl (by first | exact .inl rfl | exact .inr rfl) (de_var (pv 1)))
      (dss_cons (ds_while w_number_at_53 c (DW.dt (dw_and (dt_cmp (op_ltV c.room.units) (de_var (pv 2)) (de_callB call_lenV (by rfl) T.n_len (by decide +kernel) (da_cons (de_var (pv 0)) da_nil)) (nomark _)) (dw_and1 (dt_truth (de_call D_is_figure c (by decide) (by rfl) T.g_is_figure T.F_is_figure.kp T.b_is_figure (da_cons (de_ix ix_D (de_var (pv 0)) (de_var (pv 2)) (fun _ _ => rfl)) da_nil) (dCons_len nil_len)))))) (dss_one (ds_aug nd_number_at (i := 2) rfl (by first | exact .inl rfl | exact .inr rfl) de_int iop_addD)))
      (dss_cons (ds_if (dt_cmp (op_gtV c.room.units) (de_bin op_subD (de_var (pv 2)) (de_var (pv 1))) (de_globI (by rfl) T.c_MOST_FIGURES) (nomark _)) (dss_one (ds_ret (de_tup (da_cons (de_tup (da_cons de_str (da_cons de_int (da_cons (de_var (pv 1)) da_nil)))) (da_cons (de_var (pv 2)) (da_cons (de_var (pv 1)) da_nil)))))) dss_nil)
      (dss_one (ds_ret (de_tup (da_cons (de_tup (da_cons de_str (da_cons (de_callTy call_intX (by rfl) T.n_int (by decide +kernel) (da_cons (de_slice sl_D (de_var (pv 0)) (do_some (de_var (pv 1))) (do_some (de_var (pv 2)))) da_nil)) (da_cons (de_var (pv 1)) da_nil)))) (da_cons (de_var (pv 2)) (da_cons (de_un un_negD de_int) da_nil)))))))))) fun ds _ => .inr rfl
def w_text_at_61 : Sls → Nat := fun _ => 1000000
def b1_text_at : Sls → Out :=
    (gSeq (gSet 4 (d2 ixD (dVar 0) (dVar 3)))
    (gSeq (gIf (dB (d2 eqD (dVar 4) (fun _ => .ok (.str (Str.ofString "'")))))
    (gSeq (gIf (dB (d2 neD (dSl slD (dVar 0) (dPart (d2 addD (dVar 3) (fun _ => .ok (.int 1)))) (dPart (d2 addD (dVar 3) (fun _ => .ok (.int 2))))) (fun _ => .ok (.str (Str.ofString "'")))))
    (gBefore 2 (gRet (dL tupD (dCons (dL tupD (dCons (fun _ => .ok (.str (Str.ofString "text"))) (dCons (dM joinD (fun _ => .ok (.str (Str.ofString ""))) (dCons (dVar 2) dNil)) (dCons (dVar 1) dNil)))) (dCons (d2 addD (dVar 3) (fun _ => .ok (.int 1))) (dCons (d1 negD (fun _ => .ok (.int 1))) dNil))))))
    gNext)
    (gAug 3 iaddD (fun _ => .ok (.int 1))))
    (gIf (dNot (dTru (dCall m_is_text (dCons (dVar 4) dNil))))
    (gRet (dL tupD (dCons (dL tupD (dCons (fun _ => .ok (.str (Str.ofString "text"))) (dCons (fun _ => .ok (.str (Str.ofString ""))) (dCons (dVar 1) dNil)))) (dCons (dVar 3) (dCons (dVar 3) dNil)))))
    gNext))
    (gSeq (gApp 2 (dVar 4))
    (gSeq (gIf (tBrw 2 (dB (d2 gtV (dL lenD (dCons (dVar 2) dNil)) (fun _ => .ok (.int 200)))))
    (gRet (dL tupD (dCons (dL tupD (dCons (fun _ => .ok (.str (Str.ofString "text"))) (dCons (fun _ => .ok (.str (Str.ofString ""))) (dCons (dVar 1) dNil)))) (dCons (dVar 3) (dCons (dVar 1) dNil)))))
    gNext)
    (gAug 3 iaddD (fun _ => .ok (.int 1)))))))
def t2_text_at : Sls → Res Bool :=
    (dB (d2 ltV (dVar 3) (dL lenD (dCons (dVar 0) dNil))))
def g_text_at : Sls → Out :=
    (gSeq (gSetN 2 (dDisp dNil))
    (gSeq (gSet 3 (d2 addD (dVar 1) (fun _ => .ok (.int 1))))
    (gSeq (gWhile w_text_at_61 t2_text_at
    b1_text_at)
    (gRet (dL tupD (dCons (dL tupD (dCons (fun _ => .ok (.str (Str.ofString "text"))) (dCons (fun _ => .ok (.str (Str.ofString ""))) (dCons (dVar 1) dNil)))) (dCons (dVar 3) (dCons (dVar 1) dNil))))))))
@[simp] theorem st_text_at (x0 x1 : PyData) : st0 n_text_at [x0, x1] = [.val x0, .val x1, .un, .un, .un] := rfl
def m_text_at (ds : List PyData) : Res PyData := outR (g_text_at (st0 n_text_at ds))
theorem D_text_at {P : Program} {w : World} {K : PySem.W.Frag} {mg : Str → Option Value} {base : Heap} (T : Tx w K mg) : FnD P w K mg base 2 T.a_text_at T.d_text_at ["text", "at"] m_text_at :=
  have D_is_text := D_is_text (P := P) (w := w) (base := base) T
  fn_D (g := g_text_at) T.F_text_at sc_text_at (by decide) (fun cdv A outer s H E Fz c =>
      (dss_cons (ds_setN nd_text_at (i := 2) rfl (by first | exact .inl rfl | exact .inr rfl) (dn_lst da_nil))
      (dss_cons (ds_set nd_text_at (i := 3) rfl (by first | exact .inl rfl | exact .inr rfl) (de_bin op_addD (de_var (pv 1)) de_int))
      (dss_cons (ds_while w_text_at_61 c (dt_cmp (op_ltV c.room.units) (de_var (pv 3)) (de_callB call_lenV (by rfl) T.n_len (by decide +kernel) (da_cons (de_var (pv 0)) da_nil)) (nomark _)) (dss_cons (ds_set nd_text_at (i := 4) rfl (by first | exact .inl rfl | exact .inr rfl) (de_ix ix_D (de_var (pv 0)) (de_var (pv 3)) (fun _ _ => rfl)))
      (dss_cons (ds_if (dt_cmp (op_eqV c.room.units) (de_var (pv 4)) de_str (nomark _)) (dss_cons (ds_if (dt_cmp (op_neV c.room.units) (de_slice sl_D (de_var (pv 0)) (do_some (de_bin op_addD (de_var (pv 3)) de_int)) (do_some (de_bin op_addD (de_var (pv 3)) de_int))) de_str (nomark _)) (dss_one (DS.frz 2 (ds_ret (de_tup (da_cons (de_tup (da_cons de_str (da_cons (de_sm PySem.F.slot_str_join PySem.F.type_str_join mt_joinD de_str (da_cons (de_var (pv 2)) da_nil)) (da_cons (de_var (pv 1)) da_nil)))) (da_cons (de_bin op_addD (de_var (pv 3)) de_int) (da_cons (de_un un_negD de_int) da_nil))))))) dss_nil)
      (dss_one (ds_aug nd_text_at (i := 3) rfl (by first | exact .inl rfl | exact .inr rfl) de_int iop_addD))) (dss_one (ds_if (dt_not (dt_truth (de_call D_is_text c (by decide) (by rfl) T.g_is_text T.F_is_text.kp T.b_is_text (da_cons (de_var (pv 4)) da_nil) (dCons_len nil_len)))) (dss_one (ds_ret (de_tup (da_cons (de_tup (da_cons de_str (da_cons de_str (da_cons (de_var (pv 1)) da_nil)))) (da_cons (de_var (pv 3)) (da_cons (de_var (pv 3)) da_nil)))))) dss_nil)))
      (dss_cons (ds_append (pv 2) (de_var (pv 4)))
      (dss_cons (ds_if (DT.brw 2 (dt_cmp (op_gtV c.room.units) (de_callB call_lenV (by rfl) T.n_len (by decide +kernel) (da_cons (de_var (pv 2)) da_nil)) (de_globI (by rfl) T.c_LONGEST) (nomark _))) (dss_one (ds_ret (de_tup (da_cons (de_tup (da_cons de_str (da_cons de_str (da_cons (de_var (pv 1)) da_nil)))) (da_cons (de_var (pv 3)) (da_cons (de_var (pv 1)) da_nil)))))) dss_nil)
      (dss_one (ds_aug nd_text_at (i := 3) rfl (by first | exact .inl rfl | exact .inr rfl) de_int iop_addD)))))))
      (dss_one (ds_ret (de_tup (da_cons (de_tup (da_cons de_str (da_cons de_str (da_cons (de_var (pv 1)) da_nil)))) (da_cons (de_var (pv 3)) (da_cons (de_var (pv 1)) da_nil)))))))))) fun ds _ => .inr rfl
def b1_mark_at : Sls → Out :=
    (gIf (dTru (dM starts3D (dVar 0) (dCons (dVar 2) (dCons (dVar 1) dNil))))
    (gRet (dL tupD (dCons (dL tupD (dCons (fun _ => .ok (.str (Str.ofString "mark"))) (dCons (dVar 2) (dCons (dVar 1) dNil)))) (dCons (d2 addD (dVar 1) (dL lenD (dCons (dVar 2) dNil))) (dCons (d1 negD (fun _ => .ok (.int 1))) dNil)))))
    gNext)
def g_mark_at : Sls → Out :=
    (gSeq (gFor (dItems (fun _ => .ok k_MARKS)) (bName 2)
    b1_mark_at)
    (gRet (dL tupD (dCons (dL tupD (dCons (fun _ => .ok (.str (Str.ofString "mark"))) (dCons (fun _ => .ok (.str (Str.ofString ""))) (dCons (dVar 1) dNil)))) (dCons (dVar 1) (dCons (dVar 1) dNil))))))
@[simp] theorem st_mark_at (x0 x1 : PyData) : st0 n_mark_at [x0, x1] = [.val x0, .val x1, .un] := rfl
def m_mark_at (ds : List PyData) : Res PyData := outR (g_mark_at (st0 n_mark_at ds))
theorem D_mark_at {P : Program} {w : World} {K : PySem.W.Frag} {mg : Str → Option Value} {base : Heap} (T : Tx w K mg) : FnD P w K mg base 1 T.a_mark_at T.d_mark_at ["text", "at"] m_mark_at :=
  fn_D (g := g_mark_at) T.F_mark_at sc_mark_at (by decide) (fun cdv A outer s H E Fz c =>
      (dss_cons (ds_for c (di_any (de_globR (by rfl) T.c_MARKS)) (dg_name nd_mark_at (i := 2) rfl (by first | exact .inl rfl | exact .inr rfl)) (dss_one (ds_if (dt_truth (de_sm PySem.F.slot_str_startswith PySem.F.type_str_startswith mt_starts3D (de_var (pv 0)) (da_cons (de_var (pv 2)) (da_cons (de_var (pv 1)) da_nil)))) (dss_one (ds_ret (de_tup (da_cons (de_tup (da_cons de_str (da_cons (de_var (pv 2)) (da_cons (de_var (pv 1)) da_nil)))) (da_cons (de_bin op_addD (de_var (pv 1)) (de_callB call_lenV (by rfl) T.n_len (by decide +kernel) (da_cons (de_var (pv 2)) da_nil))) (da_cons (de_un un_negD de_int) da_nil)))))) dss_nil)))
      (dss_one (ds_ret (de_tup (da_cons (de_tup (da_cons de_str (da_cons de_str (da_cons (de_var (pv 1)) da_nil)))) (da_cons (de_var (pv 1)) (da_cons (de_var (pv 1)) da_nil)))))))) fun ds _ => .inr rfl
def g_thing_at : Sls → Out :=
    (gSeq (gIf (dOr (dTru (dCall m_is_letter (dCons (d2 ixD (dVar 0) (dVar 1)) dNil))) (dB (d2 eqD (d2 ixD (dVar 0) (dVar 1)) (fun _ => .ok (.str (Str.ofString "_"))))))
    (gRet (dCall m_word_at (dCons (dVar 0) (dCons (dVar 1) dNil))))
    gNext)
    (gSeq (gIf (dTru (dCall m_is_figure (dCons (d2 ixD (dVar 0) (dVar 1)) dNil)))
    (gRet (dCall m_number_at (dCons (dVar 0) (dCons (dVar 1) dNil))))
    gNext)
    (gSeq (gIf (dB (d2 eqD (d2 ixD (dVar 0) (dVar 1)) (fun _ => .ok (.str (Str.ofString "'")))))
    (gRet (dCall m_text_at (dCons (dVar 0) (dCons (dVar 1) dNil))))
    gNext)
    (gRet (dCall m_mark_at (dCons (dVar 0) (dCons (dVar 1) dNil)))))))
@[simp] theorem st_thing_at (x0 x1 : PyData) : st0 n_thing_at [x0, x1] = [.val x0, .val x1] := rfl
def m_thing_at (ds : List PyData) : Res PyData := outR (g_thing_at (st0 n_thing_at ds))
theorem D_thing_at {P : Program} {w : World} {K : PySem.W.Frag} {mg : Str → Option Value} {base : Heap} (T : Tx w K mg) : FnD P w K mg base 4 T.a_thing_at T.d_thing_at ["text", "at"] m_thing_at :=
  have D_is_letter := D_is_letter (P := P) (w := w) (base := base) T
  have D_word_at := D_word_at (P := P) (w := w) (base := base) T
  have D_is_figure := D_is_figure (P := P) (w := w) (base := base) T
  have D_number_at := D_number_at (P := P) (w := w) (base := base) T
  have D_text_at := D_text_at (P := P) (w := w) (base := base) T
  have D_mark_at := D_mark_at (P := P) (w := w) (base := base) T
  fn_D (g := g_thing_at) T.F_thing_at sc_thing_at (by decide) (fun cdv A outer s H E Fz c =>
      (dss_cons (ds_if (DW.dt (dw_or (dt_truth (de_call D_is_letter c (by decide) (by rfl) T.g_is_letter T.F_is_letter.kp T.b_is_letter (da_cons (de_ix ix_D (de_var (pv 0)) (de_var (pv 1)) (fun _ _ => rfl)) da_nil) (dCons_len nil_len))) (dw_or1 (dt_cmp (op_eqV c.room.units) (de_ix ix_D (de_var (pv 0)) (de_var (pv 1)) (fun _ _ => rfl)) de_str (nomark _))))) (dss_one (ds_ret (de_call D_word_at c (by decide) (by rfl) T.g_word_at T.F_word_at.kp T.b_word_at (da_cons (de_var (pv 0)) (da_cons (de_var (pv 1)) da_nil)) (dCons_len (dCons_len nil_len))))) dss_nil)
      (dss_cons (ds_if (dt_truth (de_call D_is_figure c (by decide) (by rfl) T.g_is_figure T.F_is_figure.kp T.b_is_figure (da_cons (de_ix ix_D (de_var (pv 0)) (de_var (pv 1)) (fun _ _ => rfl)) da_nil) (dCons_len nil_len))) (dss_one (ds_ret (de_call D_number_at c (by decide) (by rfl) T.g_number_at T.F_number_at.kp T.b_number_at (da_cons (de_var (pv 0)) (da_cons (de_var (pv 1)) da_nil)) (dCons_len (dCons_len nil_len))))) dss_nil)
      (dss_cons (ds_if (dt_cmp (op_eqV c.room.units) (de_ix ix_D (de_var (pv 0)) (de_var (pv 1)) (fun _ _ => rfl)) de_str (nomark _)) (dss_one (ds_ret (de_call D_text_at c (by decide) (by rfl) T.g_text_at T.F_text_at.kp T.b_text_at (da_cons (de_var (pv 0)) (da_cons (de_var (pv 1)) da_nil)) (dCons_len (dCons_len nil_len))))) dss_nil)
      (dss_one (ds_ret (de_call D_mark_at c (by decide) (by rfl) T.g_mark_at T.F_mark_at.kp T.b_mark_at (da_cons (de_var (pv 0)) (da_cons (de_var (pv 1)) da_nil)) (dCons_len (dCons_len nil_len))))))))) fun ds _ => .inr rfl
def w_scan_90 : Sls → Nat := fun _ => 1000000
def b1_scan : Sls → Out :=
    (gIf (dB (d2 inD (d2 ixD (dVar 0) (dVar 2)) (dL tupD (dCons (fun _ => .ok (.str (Str.ofString " "))) (dCons (fun _ => .ok (.str (Str.ofString "\n"))) dNil)))))
    (gAug 2 iaddD (fun _ => .ok (.int 1)))
    (gSeq (gAsg (dCall m_thing_at (dCons (dVar 0) (dCons (dVar 2) dNil))) (bTup 3 (bCons (bName 3) (bCons (bName 2) (bCons (bName 4) bNil)))))
    (gSeq (gIf (dB (d2 geD (dVar 4) (fun _ => .ok (.int 0))))
    (gBefore 1 (gRet (dL tupD (dCons (dVar 1) (dCons (dVar 4) dNil)))))
    gNext)
    (gApp 1 (dVar 3)))))
def t2_scan : Sls → Res Bool :=
    (dB (d2 ltV (dVar 2) (dL lenD (dCons (dVar 0) dNil))))
def g_scan : Sls → Out :=
    (gSeq (gSetN 1 (dDisp dNil))
    (gSeq (gSet 2 (fun _ => .ok (.int 0)))
    (gSeq (gWhile w_scan_90 t2_scan
    b1_scan)
    (gBefore 1 (gRet (dL tupD (dCons (dVar 1) (dCons (d1 negD (fun _ => .ok (.int 1))) dNil))))))))
@[simp] theorem st_scan (x0 : PyData) : st0 n_scan [x0] = [.val x0, .un, .un, .un, .un] := rfl
def m_scan (ds : List PyData) : Res PyData := outR (g_scan (st0 n_scan ds))
theorem D_scan {P : Program} {w : World} {K : PySem.W.Frag} {mg : Str → Option Value} {base : Heap} (T : Tx w K mg) : FnD P w K mg base 5 T.a_scan T.d_scan ["text"] m_scan :=
  have D_thing_at := D_thing_at (P := P) (w := w) (base := base) T
  fn_D (g := g_scan) T.F_scan sc_scan (by decide) (fun cdv A outer s H E Fz c =>
      (dss_cons (ds_setN nd_scan (i := 1) rfl (by first | exact .inl rfl | exact .inr rfl) (dn_lst da_nil))
      (dss_cons (ds_set nd_scan (i := 2) rfl (by first | exact .inl rfl | exact .inr rfl) de_int)
      (dss_cons (ds_while w_scan_90 c (dt_cmp (op_ltV c.room.units) (de_var (pv 2)) (de_callB call_lenV (by rfl) T.n_len (by decide +kernel) (da_cons (de_var (pv 0)) da_nil)) (nomark _)) (dss_one (ds_if (dt_cmp op_inV (de_ix ix_D (de_var (pv 0)) (de_var (pv 2)) (fun _ _ => rfl)) (de_tup (da_cons de_str (da_cons de_str da_nil))) (by rfl)) (dss_one (ds_aug nd_scan (i := 2) rfl (by first | exact .inl rfl | exact .inr rfl) de_int iop_addD)) (dss_cons (ds_asg (de_call D_thing_at c (by decide) (by rfl) T.g_thing_at T.F_thing_at.kp T.b_thing_at (da_cons (de_var (pv 0)) (da_cons (de_var (pv 2)) da_nil)) (dCons_len (dCons_len nil_len))) (dg_tup c.calm (dgs_cons (dg_name nd_scan (i := 3) rfl (by first | exact .inl rfl | exact .inr rfl)) (dgs_cons (dg_name nd_scan (i := 2) rfl (by first | exact .inl rfl | exact .inr rfl)) (dgs_cons (dg_name nd_scan (i := 4) rfl (by first | exact .inl rfl | exact .inr rfl)) dgs_nil)))))
      (dss_cons (ds_if (dt_cmp op_geD (de_var (pv 4)) de_int (nomark _)) (dss_one (DS.frz 1 (ds_ret (de_tup (da_cons (de_var (pv 1)) (da_cons (de_var (pv 4)) da_nil)))))) dss_nil)
      (dss_one (ds_append (pv 1) (de_var (pv 3)))))))))
      (dss_one (DS.frz 1 (ds_ret (de_tup (da_cons (de_var (pv 1)) (da_cons (de_un un_negD de_int) da_nil)))))))))) fun ds _ => .inr rfl
def g_words : Sls → Out :=
    (gSeq (gAsg (dCall m_scan (dCons (dVar 0) dNil)) (bTup 2 (bCons (bName 1) (bCons (bName 2) bNil))))
    (gSeq (gIf (dB (d2 geD (dVar 2) (fun _ => .ok (.int 0))))
    (gRaise1 "BadText" (dVar 2))
    gNext)
    (gRet (dVar 1))))
@[simp] theorem st_words (x0 : PyData) : st0 n_words [x0] = [.val x0, .un, .un] := rfl
def m_words (ds : List PyData) : Res PyData := outR (g_words (st0 n_words ds))
theorem D_words {P : Program} {w : World} {K : PySem.W.Frag} {mg : Str → Option Value} {base : Heap} (T : Tx w K mg) : FnD P w K mg base 6 T.a_words T.d_words ["text"] m_words :=
  have D_scan := D_scan (P := P) (w := w) (base := base) T
  fn_D (g := g_words) T.F_words sc_words (by decide) (fun cdv A outer s H E Fz c =>
      (dss_cons (ds_asg (de_call D_scan c (by decide) (by rfl) T.g_scan T.F_scan.kp T.b_scan (da_cons (de_var (pv 0)) da_nil) (dCons_len nil_len)) (dg_tup c.calm (dgs_cons (dg_name nd_words (i := 1) rfl (by first | exact .inl rfl | exact .inr rfl)) (dgs_cons (dg_name nd_words (i := 2) rfl (by first | exact .inl rfl | exact .inr rfl)) dgs_nil))))
      (dss_cons (ds_if (dt_cmp op_geD (de_var (pv 2)) de_int (nomark _)) (dss_one (ds_raise1 T.xp_BadText (I_BadText T) T.xb_BadText c (by decide) (by rfl) (de_var (pv 2)))) dss_nil)
      (dss_one (ds_ret (de_var (pv 1))))))) fun ds _ => .inr rfl
def g_law_cell : Sls → Out :=
    (gSeq (gIf (dB (d2 ltV (dVar 1) (dL lenD (dCons (dVar 0) dNil))))
    (gRet (d2 ixD (dVar 0) (dVar 1)))
    gNext)
    (gRet (fun _ => .ok (.int 0))))
@[simp] theorem st_law_cell (x0 x1 : PyData) : st0 n_law_cell [x0, x1] = [.val x0, .val x1] := rfl
def m_law_cell (ds : List PyData) : Res PyData := outR (g_law_cell (st0 n_law_cell ds))
theorem D_law_cell {P : Program} {w : World} {K : PySem.W.Frag} {mg : Str → Option Value} {base : Heap} (T : Tx w K mg) : FnD P w K mg base 1 T.a_law_cell T.d_law_cell ["script", "k"] m_law_cell :=
  fn_D (g := g_law_cell) T.F_law_cell sc_law_cell (by decide) (fun cdv A outer s H E Fz c =>
      (dss_cons (ds_if (dt_cmp (op_ltV c.room.units) (de_var (pv 1)) (de_callB call_lenV (by rfl) T.n_len (by decide +kernel) (da_cons (de_var (pv 0)) da_nil)) (nomark _)) (dss_one (ds_ret (de_ix ix_D (de_var (pv 0)) (de_var (pv 1)) (fun _ _ => rfl)))) dss_nil)
      (dss_one (ds_ret de_int)))) fun ds _ => .inr rfl
def g_law_mixed : Sls → Out :=
    (gSeq (gSet 2 (d2 modD (dL intXD (dCons (d2 addD (d2 addD (d2 mulVD (dVar 0) (fun _ => .ok (.int 48271))) (d2 mulVD (dVar 1) (fun _ => .ok (.int 69621)))) (fun _ => .ok (.int 11))) dNil)) (fun _ => .ok (.int 2147483647))))
    (gRet (d2 modD (dL intXD (dCons (d2 addD (d2 addD (d2 mulVD (dVar 2) (fun _ => .ok (.int 16807))) (d2 mulVD (dVar 1) (fun _ => .ok (.int 7919)))) (d2 fdivD (dVar 2) (fun _ => .ok (.int 127773)))) dNil)) (fun _ => .ok (.int 2147483629)))))
@[simp] theorem st_law_mixed (x0 x1 : PyData) : st0 n_law_mixed [x0, x1] = [.val x0, .val x1, .un] := rfl
def m_law_mixed (ds : List PyData) : Res PyData := outR (g_law_mixed (st0 n_law_mixed ds))
theorem D_law_mixed {P : Program} {w : World} {K : PySem.W.Frag} {mg : Str → Option Value} {base : Heap} (T : Tx w K mg) : FnD P w K mg base 1 T.a_law_mixed T.d_law_mixed ["cell", "k"] m_law_mixed :=
  fn_D (g := g_law_mixed) T.F_law_mixed sc_law_mixed (by decide) (fun cdv A outer s H E Fz c =>
      (dss_cons (ds_set nd_law_mixed (i := 2) rfl (by first | exact .inl rfl | exact .inr rfl) (de_bin op_modD (de_callTy call_intX (by rfl) T.n_int (by decide +kernel) (da_cons (de_bin op_addD (de_bin op_addD (de_bin op_mulV (de_var (pv 0)) de_int) (de_bin op_mulV (de_var (pv 1)) de_int)) de_int) da_nil)) de_int))
      (dss_one (ds_ret (de_bin op_modD (de_callTy call_intX (by rfl) T.n_int (by decide +kernel) (da_cons (de_bin op_addD (de_bin op_addD (de_bin op_mulV (de_var (pv 2)) de_int) (de_bin op_mulV (de_var (pv 1)) de_int)) (de_bin op_fdivD (de_var (pv 2)) de_int)) da_nil)) de_int))))) fun ds _ => .inr rfl
def b1_law_draws : Sls → Out :=
    (gIf (dAnd (dTru (dVar 4)) (dB (d2 gtV (dVar 3) (fun _ => .ok (.int 0)))))
    (gSeq (gApp 2 (d2 modD (dL intXD (dCons (dVar 3) dNil)) (d2 powD (fun _ => .ok (.int 10)) (fun _ => .ok (.int 7)))))
    (gSet 3 (d2 fdivD (dVar 3) (d2 powD (fun _ => .ok (.int 10)) (fun _ => .ok (.int 7))))))
    (gApp 2 (dCall m_law_mixed (dCons (dVar 0) (dCons (dVar 5) dNil)))))
def g_law_draws : Sls → Out :=
    (gSeq (gSetN 2 (dDisp dNil))
    (gSeq (gSet 3 (dL absD (dCons (dVar 0) dNil)))
    (gSeq (gSet 4 (d2 geD (dVar 3) (d2 powD (fun _ => .ok (.int 10)) (fun _ => .ok (.int 18)))))
    (gSeq (gFor (dRng rng1 (dCons (dVar 1) dNil)) (bName 5)
    b1_law_draws)
    (gBefore 2 (gRet (dVar 2)))))))
@[simp] theorem st_law_draws (x0 x1 : PyData) : st0 n_law_draws [x0, x1] = [.val x0, .val x1, .un, .un, .un, .un] := rfl
def m_law_draws (ds : List PyData) : Res PyData := outR (g_law_draws (st0 n_law_draws ds))
theorem D_law_draws {P : Program} {w : World} {K : PySem.W.Frag} {mg : Str → Option Value} {base : Heap} (T : Tx w K mg) : FnD P w K mg base 2 T.a_law_draws T.d_law_draws ["cell", "many"] m_law_draws :=
  have D_law_mixed := D_law_mixed (P := P) (w := w) (base := base) T
  fn_D (g := g_law_draws) T.F_law_draws sc_law_draws (by decide) (fun cdv A outer s H E Fz c =>
      (dss_cons (ds_setN nd_law_draws (i := 2) rfl (by first | exact .inl rfl | exact .inr rfl) (dn_lst da_nil))
      (dss_cons (ds_set nd_law_draws (i := 3) rfl (by first | exact .inl rfl | exact .inr rfl) (de_callB call_absV (by rfl) T.n_abs (by decide +kernel) (da_cons (de_var (pv 0)) da_nil)))
      (dss_cons (ds_set nd_law_draws (i := 4) rfl (by first | exact .inl rfl | exact .inr rfl) (de_cmp op_geD (de_var (pv 3)) (de_bin op_powD de_int de_int) (nomark _)))
      (dss_cons (ds_for c (di_range1 (by rfl) T.n_range (da_cons (de_var (pv 1)) da_nil)) (dg_name nd_law_draws (i := 5) rfl (by first | exact .inl rfl | exact .inr rfl)) (dss_one (ds_if (DW.dt (dw_and (dt_truth (de_var (pv 4))) (dw_and1 (dt_cmp (op_gtV c.room.units) (de_var (pv 3)) de_int (nomark _))))) (dss_cons (ds_append (pv 2) (de_bin op_modD (de_callTy call_intX (by rfl) T.n_int (by decide +kernel) (da_cons (de_var (pv 3)) da_nil)) (de_bin op_powD de_int de_int)))
      (dss_one (ds_set nd_law_draws (i := 3) rfl (by first | exact .inl rfl | exact .inr rfl) (de_bin op_fdivD (de_var (pv 3)) (de_bin op_powD de_int de_int))))) (dss_one (ds_append (pv 2) (de_call D_law_mixed c (by decide) (by rfl) T.g_law_mixed T.F_law_mixed.kp T.b_law_mixed (da_cons (de_var (pv 0)) (da_cons (de_var (pv 5)) da_nil)) (dCons_len (dCons_len nil_len))))))))
      (dss_one (DS.frz 2 (ds_ret (de_var (pv 2)))))))))) fun ds _ => .inr rfl
def g_law_signs : Sls → Out :=
    (gSeq (gSet 0 (fun _ => .ok (.str (Str.ofString " !\"#$&'()*+,-./0123456789:;<=>?\u0040ABCDEFGHIJKLMNOPQRSTUVWXYZ[\\]^_`"))))
    (gRet (d2 addD (dVar 0) (fun _ => .ok (.str (Str.ofString "abcdefghijklmnopqrstuvwxyz{|}~"))))))
@[simp] theorem st_law_signs  : st0 n_law_signs [] = [.un] := rfl
def m_law_signs (ds : List PyData) : Res PyData := outR (g_law_signs (st0 n_law_signs ds))
theorem D_law_signs {P : Program} {w : World} {K : PySem.W.Frag} {mg : Str → Option Value} {base : Heap} (T : Tx w K mg) : FnD P w K mg base 1 T.a_law_signs T.d_law_signs [] m_law_signs :=
  fn_D (g := g_law_signs) T.F_law_signs sc_law_signs (by decide) (fun cdv A outer s H E Fz c =>
      (dss_cons (ds_set nd_law_signs (i := 0) rfl (by first | exact .inl rfl | exact .inr rfl) de_str)
      (dss_one (ds_ret (de_bin op_addD (de_var (pv 0)) de_str))))) fun ds _ => .inr rfl
def e1_law_text : Sls → Res PyData :=
    (d2 ixD (dVar 2) (d2 modD (dL intXD (dCons (d2 addD (d2 ixD (dVar 0) (d2 modD (dL intXD (dCons (dVar 4) dNil)) (dVar 3))) (d2 mulVD (d2 fdivD (dVar 4) (dVar 3)) (fun _ => .ok (.int 31)))) dNil)) (fun _ => .ok (.int 94))))
def g_law_text : Sls → Out :=
    (gSeq (gSet 2 (fun _ => m_law_signs []))
    (gSeq (gSet 3 (dL lenD (dCons (dVar 0) dNil)))
    (gRet (dM joinD (fun _ => .ok (.str (Str.ofString ""))) (dCons (dFr (dLc (dRng rng1 (dCons (dVar 1) dNil)) (bName 4) tYesD e1_law_text [4])) dNil)))))
@[simp] theorem st_law_text (x0 x1 : PyData) : st0 n_law_text [x0, x1] = [.val x0, .val x1, .un, .un, .un] := rfl
def m_law_text (ds : List PyData) : Res PyData := outR (g_law_text (st0 n_law_text ds))
theorem D_law_text {P : Program} {w : World} {K : PySem.W.Frag} {mg : Str → Option Value} {base : Heap} (T : Tx w K mg) : FnD P w K mg base 2 T.a_law_text T.d_law_text ["draws", "size"] m_law_text :=
  have D_law_signs := D_law_signs (P := P) (w := w) (base := base) T
  fn_D (g := g_law_text) T.F_law_text sc_law_text (by decide) (fun cdv A outer s H E Fz c =>
      (dss_cons (ds_set nd_law_text (i := 2) rfl (by first | exact .inl rfl | exact .inr rfl) (de_call0 D_law_signs c (by decide) (by rfl) T.g_law_signs T.F_law_signs.kp T.b_law_signs))
      (dss_cons (ds_set nd_law_text (i := 3) rfl (by first | exact .inl rfl | exact .inr rfl) (de_callB call_lenV (by rfl) T.n_len (by decide +kernel) (da_cons (de_var (pv 0)) da_nil)))
      (dss_one (ds_ret (de_sm PySem.F.slot_str_join PySem.F.type_str_join mt_joinD de_str (da_cons (DN.de (dn_lc (own := [("k", 4)]) c nd_law_text (di_range1 (by rfl) T.n_range (da_cons (de_var (pv 1)) da_nil)) (blkOk_by (N := n_law_text) (sc := defScope s_law_text) (by decide +kernel)) (by decide) (fun _ _ _ _ _ c => (dg_name nd_law_text (i := 4) rfl (by first | exact .inl rfl | exact .inr rfl))) (fun _ _ _ _ _ c => dts_nil) (fun _ _ _ _ _ c => (de_ix ix_D (de_var (pv 2)) (de_bin op_modD (de_callTy call_intX (by rfl) T.n_int (by decide +kernel) (da_cons (de_bin op_addD (de_ix ix_D (de_var (pv 0)) (de_bin op_modD (de_callTy call_intX (by rfl) T.n_int (by decide +kernel) (da_cons (de_var (pv 4)) da_nil)) (de_var (pv 3))) (fun _ _ => rfl)) (de_bin op_mulV (de_bin op_fdivD (de_var (pv 4)) (de_var (pv 3))) de_int)) da_nil)) de_int) (fun _ _ => rfl))))) da_nil))))))) fun ds _ => .inr rfl
def g_law_reserved : Sls → Out :=
    (gSeq (gSet 0 (fun _ => .ok (.str (Str.ofString "SELECT DISTINCT FROM WHERE GROUP BY HAVING ORDER LIMIT OFFSET AS JOIN INNER LEFT RIGHT FULL CROSS ON UNION"))))
    (gSeq (gSet 0 (d2 addD (dVar 0) (fun _ => .ok (.str (Str.ofString " INTERSECT EXCEPT ALL VALUES WITH AND OR NOT IS NULL TRUE FALSE IN EXISTS BETWEEN LIKE CASE WHEN")))))
    (gSeq (gSet 0 (d2 addD (dVar 0) (fun _ => .ok (.str (Str.ofString " THEN ELSE END ASC DESC NULLS FIRST LAST OVER PARTITION ROWS PRECEDING FOLLOWING UNBOUNDED CURRENT ROW")))))
    (gRet (dM splitD (dVar 0) (dCons (fun _ => .ok (.str (Str.ofString " "))) dNil))))))
@[simp] theorem st_law_reserved  : st0 n_law_reserved [] = [.un] := rfl
def m_law_reserved (ds : List PyData) : Res PyData := outR (g_law_reserved (st0 n_law_reserved ds))
theorem D_law_reserved {P : Program} {w : World} {K : PySem.W.Frag} {mg : Str → Option Value} {base : Heap} (T : Tx w K mg) : FnD P w K mg base 1 T.a_law_reserved T.d_law_reserved [] m_law_reserved :=
  fn_D (g := g_law_reserved) T.F_law_reserved sc_law_reserved (by decide) (fun cdv A outer s H E Fz c =>
      (dss_cons (ds_set nd_law_reserved (i := 0) rfl (by first | exact .inl rfl | exact .inr rfl) de_str)
      (dss_cons (ds_set nd_law_reserved (i := 0) rfl (by first | exact .inl rfl | exact .inr rfl) (de_bin op_addD (de_var (pv 0)) de_str))
      (dss_cons (ds_set nd_law_reserved (i := 0) rfl (by first | exact .inl rfl | exact .inr rfl) (de_bin op_addD (de_var (pv 0)) de_str))
      (dss_one (ds_ret (de_sm PySem.F.slot_str_split PySem.F.type_str_split mt_splitD (de_var (pv 0)) (da_cons de_str da_nil)))))))) fun ds _ => .inr rfl
def b1_law_cased : Sls → Out :=
    (gIf (dB (d2 eqD (d2 modD (d2 fdivD (dL intXD (dCons (dVar 1) dNil)) (d2 addD (fun _ => .ok (.int 3)) (dVar 3))) (fun _ => .ok (.int 2))) (fun _ => .ok (.int 0))))
    (gSet 2 (d2 addD (dVar 2) (dM lowerD (d2 ixD (dVar 0) (dVar 3)) dNil)))
    (gSet 2 (d2 addD (dVar 2) (d2 ixD (dVar 0) (dVar 3)))))
def g_law_cased : Sls → Out :=
    (gSeq (gIf (dB (d2 eqD (d2 modD (dL intXD (dCons (dVar 1) dNil)) (fun _ => .ok (.int 3))) (fun _ => .ok (.int 0))))
    (gRet (dVar 0))
    gNext)
    (gSeq (gIf (dB (d2 eqD (d2 modD (dL intXD (dCons (dVar 1) dNil)) (fun _ => .ok (.int 3))) (fun _ => .ok (.int 1))))
    (gRet (dM lowerD (dVar 0) dNil))
    gNext)
    (gSeq (gSet 2 (fun _ => .ok (.str (Str.ofString ""))))
    (gSeq (gFor (dRng rng1 (dCons (dL lenD (dCons (dVar 0) dNil)) dNil)) (bName 3)
    b1_law_cased)
    (gRet (dVar 2))))))
@[simp] theorem st_law_cased (x0 x1 : PyData) : st0 n_law_cased [x0, x1] = [.val x0, .val x1, .un, .un] := rfl
def m_law_cased (ds : List PyData) : Res PyData := outR (g_law_cased (st0 n_law_cased ds))
theorem D_law_cased {P : Program} {w : World} {K : PySem.W.Frag} {mg : Str → Option Value} {base : Heap} (T : Tx w K mg) : FnD P w K mg base 1 T.a_law_cased T.d_law_cased ["word", "draw"] m_law_cased :=
  fn_D (g := g_law_cased) T.F_law_cased sc_law_cased (by decide) (fun cdv A outer s H E Fz c =>
      (dss_cons (ds_if (dt_cmp (op_eqV c.room.units) (de_bin op_modD (de_callTy call_intX (by rfl) T.n_int (by decide +kernel) (da_cons (de_var (pv 1)) da_nil)) de_int) de_int (nomark _)) (dss_one (ds_ret (de_var (pv 0)))) dss_nil)
      (dss_cons (ds_if (dt_cmp (op_eqV c.room.units) (de_bin op_modD (de_callTy call_intX (by rfl) T.n_int (by decide +kernel) (da_cons (de_var (pv 1)) da_nil)) de_int) de_int (nomark _)) (dss_one (ds_ret (de_sm0 PySem.F.slot_str_lower PySem.F.type_str_lower mt_lowerD (de_var (pv 0))))) dss_nil)
      (dss_cons (ds_set nd_law_cased (i := 2) rfl (by first | exact .inl rfl | exact .inr rfl) de_str)
      (dss_cons (ds_for c (di_range1 (by rfl) T.n_range (da_cons (de_callB call_lenV (by rfl) T.n_len (by decide +kernel) (da_cons (de_var (pv 0)) da_nil)) da_nil)) (dg_name nd_law_cased (i := 3) rfl (by first | exact .inl rfl | exact .inr rfl)) (dss_one (ds_if (dt_cmp (op_eqV c.room.units) (de_bin op_modD (de_bin op_fdivD (de_callTy call_intX (by rfl) T.n_int (by decide +kernel) (da_cons (de_var (pv 1)) da_nil)) (de_bin op_addD de_int (de_var (pv 3)))) de_int) de_int (nomark _)) (dss_one (ds_set nd_law_cased (i := 2) rfl (by first | exact .inl rfl | exact .inr rfl) (de_bin op_addD (de_var (pv 2)) (de_sm0 PySem.F.slot_str_lower PySem.F.type_str_lower mt_lowerD (de_ix ix_D (de_var (pv 0)) (de_var (pv 3)) (fun _ _ => rfl)))))) (dss_one (ds_set nd_law_cased (i := 2) rfl (by first | exact .inl rfl | exact .inr rfl) (de_bin op_addD (de_var (pv 2)) (de_ix ix_D (de_var (pv 0)) (de_var (pv 3)) (fun _ _ => rfl))))))))
      (dss_one (ds_ret (de_var (pv 2))))))))) fun ds _ => .inr rfl
def b1_law_word : Sls → Out :=
    (gSet 3 (d2 addD (dVar 3) (d2 ixD (d2 addD (d2 addD (dVar 2) (fun _ => .ok (.str (Str.ofString "_0123456789")))) (dVar 2)) (d2 modD (dL intXD (dCons (d2 addD (d2 ixD (dVar 0) (d2 addD (fun _ => .ok (.int 3)) (d2 modD (dVar 4) (fun _ => .ok (.int 5))))) (d2 mulVD (d2 fdivD (dVar 4) (fun _ => .ok (.int 5))) (fun _ => .ok (.int 7)))) dNil)) (fun _ => .ok (.int 63))))))
def g_law_word : Sls → Out :=
    (gSeq (gSet 1 (d2 addD (fun _ => .ok (.int 1)) (d2 modD (dL intXD (dCons (d2 ixD (dVar 0) (fun _ => .ok (.int 1))) dNil)) (fun _ => .ok (.int 5)))))
    (gSeq (gIf (dB (d2 eqD (d2 modD (dL intXD (dCons (d2 ixD (dVar 0) (fun _ => .ok (.int 0))) dNil)) (fun _ => .ok (.int 9))) (fun _ => .ok (.int 0))))
    (gSet 1 (d2 addD (fun _ => .ok (.int 19)) (d2 modD (dL intXD (dCons (d2 ixD (dVar 0) (fun _ => .ok (.int 1))) dNil)) (fun _ => .ok (.int 2)))))
    gNext)
    (gSeq (gSet 2 (fun _ => .ok (.str (Str.ofString "abcdefghijklmnopqrstuvwxyz"))))
    (gSeq (gSet 3 (d2 ixD (dVar 2) (d2 modD (dL intXD (dCons (d2 ixD (dVar 0) (fun _ => .ok (.int 2))) dNil)) (fun _ => .ok (.int 26)))))
    (gSeq (gFor (dRng rng1 (dCons (d2 subD (dVar 1) (fun _ => .ok (.int 1))) dNil)) (bName 4)
    b1_law_word)
    (gRet (dVar 3)))))))
@[simp] theorem st_law_word (x0 : PyData) : st0 n_law_word [x0] = [.val x0, .un, .un, .un, .un] := rfl
def m_law_word (ds : List PyData) : Res PyData := outR (g_law_word (st0 n_law_word ds))
theorem D_law_word {P : Program} {w : World} {K : PySem.W.Frag} {mg : Str → Option Value} {base : Heap} (T : Tx w K mg) : FnD P w K mg base 1 T.a_law_word T.d_law_word ["draws"] m_law_word :=
  fn_D (g := g_law_word) T.F_law_word sc_law_word (by decide) (fun cdv A outer s H E Fz c =>
      (dss_cons (ds_set nd_law_word (i := 1) rfl (by first | exact .inl rfl | exact .inr rfl) (de_bin op_addD de_int (de_bin op_modD (de_callTy call_intX (by rfl) T.n_int (by decide +kernel) (da_cons (de_ix ix_D (de_var (pv 0)) de_int (fun _ _ => rfl)) da_nil)) de_int)))
      (dss_cons (ds_if (dt_cmp (op_eqV c.room.units) (de_bin op_modD (de_callTy call_intX (by rfl) T.n_int (by decide +kernel) (da_cons (de_ix ix_D (de_var (pv 0)) de_int (fun _ _ => rfl)) da_nil)) de_int) de_int (nomark _)) (dss_one (ds_set nd_law_word (i := 1) rfl (by first | exact .inl rfl | exact .inr rfl) (de_bin op_addD de_int (de_bin op_modD (de_callTy call_intX (by rfl) T.n_int (by decide +kernel) (da_cons (de_ix ix_D (de_var (pv 0)) de_int (fun _ _ => rfl)) da_nil)) de_int)))) dss_nil)
      (dss_cons (ds_set nd_law_word (i := 2) rfl (by first | exact .inl rfl | exact .inr rfl) de_str)
      (dss_cons (ds_set nd_law_word (i := 3) rfl (by first | exact .inl rfl | exact .inr rfl) (de_ix ix_D (de_var (pv 2)) (de_bin op_modD (de_callTy call_intX (by rfl) T.n_int (by decide +kernel) (da_cons (de_ix ix_D (de_var (pv 0)) de_int (fun _ _ => rfl)) da_nil)) de_int) (fun _ _ => rfl)))
      (dss_cons (ds_for c (di_range1 (by rfl) T.n_range (da_cons (de_bin op_subD (de_var (pv 1)) de_int) da_nil)) (dg_name nd_law_word (i := 4) rfl (by first | exact .inl rfl | exact .inr rfl)) (dss_one (ds_set nd_law_word (i := 3) rfl (by first | exact .inl rfl | exact .inr rfl) (de_bin op_addD (de_var (pv 3)) (de_ix ix_D (de_bin op_addD (de_bin op_addD (de_var (pv 2)) de_str) (de_var (pv 2))) (de_bin op_modD (de_callTy call_intX (by rfl) T.n_int (by decide +kernel) (da_cons (de_bin op_addD (de_ix ix_D (de_var (pv 0)) (de_bin op_addD de_int (de_bin op_modD (de_var (pv 4)) de_int)) (fun _ _ => rfl)) (de_bin op_mulV (de_bin op_fdivD (de_var (pv 4)) de_int) de_int)) da_nil)) de_int) (fun _ _ => rfl))))))
      (dss_one (ds_ret (de_var (pv 3)))))))))) fun ds _ => .inr rfl
def g_law_thing : Sls → Out :=
    (gSeq (gSet 1 (d2 modD (dL intXD (dCons (d2 ixD (dVar 0) (fun _ => .ok (.int 0))) dNil)) (fun _ => .ok (.int 8))))
    (gSeq (gIf (dB (d2 ltV (dVar 1) (fun _ => .ok (.int 2))))
    (gSeq (gSet 2 (d2 ixD (fun _ => m_law_reserved []) (d2 modD (dL intXD (dCons (d2 ixD (dVar 0) (fun _ => .ok (.int 1))) dNil)) (fun _ => .ok (.int 53)))))
    (gSeq (gSet 2 (dCall m_law_cased (dCons (dVar 2) (dCons (d2 ixD (dVar 0) (fun _ => .ok (.int 2))) dNil))))
    (gRet (dFr (dDisp (dCons (dVar 2) (dCons (dL tupD (dCons (fun _ => .ok (.str (Str.ofString "word"))) (dCons (dVar 2) dNil))) dNil)))))))
    gNext)
    (gSeq (gIf (dB (d2 ltV (dVar 1) (fun _ => .ok (.int 4))))
    (gSeq (gSet 2 (dCall m_law_word (dCons (dVar 0) dNil)))
    (gRet (dFr (dDisp (dCons (dVar 2) (dCons (dL tupD (dCons (fun _ => .ok (.str (Str.ofString "word"))) (dCons (dVar 2) dNil))) dNil))))))
    gNext)
    (gSeq (gIf (dB (d2 eqD (dVar 1) (fun _ => .ok (.int 4))))
    (gSeq (gSet 3 (d2 addD (d2 mulVD (fun _ => .ok (.str (Str.ofString "0"))) (d2 modD (dL intXD (dCons (d2 ixD (dVar 0) (fun _ => .ok (.int 1))) dNil)) (fun _ => .ok (.int 4)))) (dL strD (dCons (d2 modD (dL intXD (dCons (d2 addD (d2 mulVD (d2 ixD (dVar 0) (fun _ => .ok (.int 2))) (d2 powD (fun _ => .ok (.int 10)) (fun _ => .ok (.int 7)))) (d2 ixD (dVar 0) (fun _ => .ok (.int 3)))) dNil)) (d2 powD (fun _ => .ok (.int 10)) (fun _ => .ok (.int 15)))) dNil))))
    (gRet (dFr (dDisp (dCons (dVar 3) (dCons (dL tupD (dCons (fun _ => .ok (.str (Str.ofString "number"))) (dCons (dL intXD (dCons (dVar 3) dNil)) dNil))) dNil))))))
    gNext)
    (gSeq (gIf (dB (d2 eqD (dVar 1) (fun _ => .ok (.int 5))))
    (gSeq (gSet 4 (dCall m_law_text (dCons (dSl slD (dVar 0) (dPart (fun _ => .ok (.int 3))) (fun _ => .ok none)) (dCons (d2 ixD (dFr (dDisp (dCons (d2 modD (dL intXD (dCons (d2 ixD (dVar 0) (fun _ => .ok (.int 1))) dNil)) (fun _ => .ok (.int 8))) (dCons (d2 addD (fun _ => .ok (.int 199)) (d2 modD (dL intXD (dCons (d2 ixD (dVar 0) (fun _ => .ok (.int 1))) dNil)) (fun _ => .ok (.int 2)))) dNil)))) (dL intXD (dCons (d2 eqD (d2 modD (dL intXD (dCons (d2 ixD (dVar 0) (fun _ => .ok (.int 2))) dNil)) (fun _ => .ok (.int 12))) (fun _ => .ok (.int 0))) dNil))) dNil))))
    (gSeq (gSet 4 (d1 (replD (Str.ofString "b") (Str.ofString "''")) (d1 (replD (Str.ofString "a") (Str.ofString "'")) (dVar 4))))
    (gRet (dFr (dDisp (dCons (d2 addD (d2 addD (fun _ => .ok (.str (Str.ofString "'"))) (d1 (replD (Str.ofString "'") (Str.ofString "''")) (dSl slD (dVar 4) (fun _ => .ok none) (dPart (fun _ => .ok (.int 200)))))) (fun _ => .ok (.str (Str.ofString "'")))) (dCons (dL tupD (dCons (fun _ => .ok (.str (Str.ofString "text"))) (dCons (dSl slD (dVar 4) (fun _ => .ok none) (dPart (fun _ => .ok (.int 200)))) dNil))) dNil)))))))
    gNext)
    (gSeq (gSet 5 (dM splitD (fun _ => .ok (.str (Str.ofString "( ) , . * + - / = <> < <= > >= ||"))) (dCons (fun _ => .ok (.str (Str.ofString " "))) dNil)))
    (gSeq (gSet 6 (d2 ixD (dVar 5) (d2 modD (dL intXD (dCons (d2 ixD (dVar 0) (fun _ => .ok (.int 1))) dNil)) (fun _ => .ok (.int 15)))))
    (gRet (dFr (dDisp (dCons (dVar 6) (dCons (dL tupD (dCons (fun _ => .ok (.str (Str.ofString "mark"))) (dCons (dVar 6) dNil))) dNil))))))))))))
@[simp] theorem st_law_thing (x0 : PyData) : st0 n_law_thing [x0] = [.val x0, .un, .un, .un, .un, .un, .un] := rfl
def m_law_thing (ds : List PyData) : Res PyData := outR (g_law_thing (st0 n_law_thing ds))
theorem D_law_thing {P : Program} {w : World} {K : PySem.W.Frag} {mg : Str → Option Value} {base : Heap} (T : Tx w K mg) : FnD P w K mg base 3 T.a_law_thing T.d_law_thing ["draws"] m_law_thing :=
  have D_law_reserved := D_law_reserved (P := P) (w := w) (base := base) T
  have D_law_cased := D_law_cased (P := P) (w := w) (base := base) T
  have D_law_word := D_law_word (P := P) (w := w) (base := base) T
  have D_law_text := D_law_text (P := P) (w := w) (base := base) T
  fn_D (g := g_law_thing) T.F_law_thing sc_law_thing (by decide) (fun cdv A outer s H E Fz c =>
      (dss_cons (ds_set nd_law_thing (i := 1) rfl (by first | exact .inl rfl | exact .inr rfl) (de_bin op_modD (de_callTy call_intX (by rfl) T.n_int (by decide +kernel) (da_cons (de_ix ix_D (de_var (pv 0)) de_int (fun _ _ => rfl)) da_nil)) de_int))
      (dss_cons (ds_if (dt_cmp (op_ltV c.room.units) (de_var (pv 1)) de_int (nomark _)) (dss_cons (ds_set nd_law_thing (i := 2) rfl (by first | exact .inl rfl | exact .inr rfl) (de_ix ix_D (de_call0 D_law_reserved c (by decide) (by rfl) T.g_law_reserved T.F_law_reserved.kp T.b_law_reserved) (de_bin op_modD (de_callTy call_intX (by rfl) T.n_int (by decide +kernel) (da_cons (de_ix ix_D (de_var (pv 0)) de_int (fun _ _ => rfl)) da_nil)) de_int) (fun _ _ => rfl)))
      (dss_cons (ds_set nd_law_thing (i := 2) rfl (by first | exact .inl rfl | exact .inr rfl) (de_call D_law_cased c (by decide) (by rfl) T.g_law_cased T.F_law_cased.kp T.b_law_cased (da_cons (de_var (pv 2)) (da_cons (de_ix ix_D (de_var (pv 0)) de_int (fun _ _ => rfl)) da_nil)) (dCons_len (dCons_len nil_len))))
      (dss_one (ds_ret (DN.de (dn_lst (da_cons (de_var (pv 2)) (da_cons (de_tup (da_cons de_str (da_cons (de_var (pv 2)) da_nil))) da_nil)))))))) dss_nil)
      (dss_cons (ds_if (dt_cmp (op_ltV c.room.units) (de_var (pv 1)) de_int (nomark _)) (dss_cons (ds_set nd_law_thing (i := 2) rfl (by first | exact .inl rfl | exact .inr rfl) (de_call D_law_word c (by decide) (by rfl) T.g_law_word T.F_law_word.kp T.b_law_word (da_cons (de_var (pv 0)) da_nil) (dCons_len nil_len)))
      (dss_one (ds_ret (DN.de (dn_lst (da_cons (de_var (pv 2)) (da_cons (de_tup (da_cons de_str (da_cons (de_var (pv 2)) da_nil))) da_nil))))))) dss_nil)
      (dss_cons (ds_if (dt_cmp (op_eqV c.room.units) (de_var (pv 1)) de_int (nomark _)) (dss_cons (ds_set nd_law_thing (i := 3) rfl (by first | exact .inl rfl | exact .inr rfl) (de_bin op_addD (de_bin op_mulV de_str (de_bin op_modD (de_callTy call_intX (by rfl) T.n_int (by decide +kernel) (da_cons (de_ix ix_D (de_var (pv 0)) de_int (fun _ _ => rfl)) da_nil)) de_int)) (de_callTy call_strV (by rfl) T.n_str (by decide +kernel) (da_cons (de_bin op_modD (de_callTy call_intX (by rfl) T.n_int (by decide +kernel) (da_cons (de_bin op_addD (de_bin op_mulV (de_ix ix_D (de_var (pv 0)) de_int (fun _ _ => rfl)) (de_bin op_powD de_int de_int)) (de_ix ix_D (de_var (pv 0)) de_int (fun _ _ => rfl))) da_nil)) (de_bin op_powD de_int de_int)) da_nil))))
      (dss_one (ds_ret (DN.de (dn_lst (da_cons (de_var (pv 3)) (da_cons (de_tup (da_cons de_str (da_cons (de_callTy call_intX (by rfl) T.n_int (by decide +kernel) (da_cons (de_var (pv 3)) da_nil)) da_nil))) da_nil))))))) dss_nil)
      (dss_cons (ds_ifT (op_eqV c.room.units) (nomark _) (de_var (pv 1)) (dsst_cons (dst_of (ds_set nd_law_thing (i := 4) rfl (by first | exact .inl rfl | exact .inr rfl) (de_call D_law_text c (by decide) (by rfl) T.g_law_text T.F_law_text.kp T.b_law_text (da_cons (de_slice sl_D (de_var (pv 0)) (do_some de_int) do_none) (da_cons (de_ix ix_D (DN.de (dn_lst (da_cons (de_bin op_modD (de_callTy call_intX (by rfl) T.n_int (by decide +kernel) (da_cons (de_ix ix_D (de_var (pv 0)) de_int (fun _ _ => rfl)) da_nil)) de_int) (da_cons (de_bin op_addD de_int (de_bin op_modD (de_callTy call_intX (by rfl) T.n_int (by decide +kernel) (da_cons (de_ix ix_D (de_var (pv 0)) de_int (fun _ _ => rfl)) da_nil)) de_int)) da_nil)))) (de_callTy call_intX (by rfl) T.n_int (by decide +kernel) (da_cons (de_cmp (op_eqV c.room.units) (de_bin op_modD (de_callTy call_intX (by rfl) T.n_int (by decide +kernel) (da_cons (de_ix ix_D (de_var (pv 0)) de_int (fun _ _ => rfl)) da_nil)) de_int) de_int (nomark _)) da_nil)) (fun _ _ => rfl)) da_nil)) (dCons_len (dCons_len nil_len)))))
      (dsst_cons (dst_set nd_law_thing (i := 4) rfl (by first | exact .inl rfl | exact .inr rfl) (det_replT (det_repl (de_var (pv 4)))))
      (dsst_of (dss_one (ds_ret (DN.de (dn_lst (da_cons (de_bin op_addD (de_binT op_addD (det_repl (de_slice sl_D (de_var (pv 4)) do_none (do_some de_int)))) de_str) (da_cons (de_tup (da_cons de_str (da_cons (de_slice sl_D (de_var (pv 4)) do_none (do_some de_int)) da_nil))) da_nil))))))))) dss_nil)
      (dss_cons (ds_set nd_law_thing (i := 5) rfl (by first | exact .inl rfl | exact .inr rfl) (de_sm PySem.F.slot_str_split PySem.F.type_str_split mt_splitD de_str (da_cons de_str da_nil)))
      (dss_cons (ds_set nd_law_thing (i := 6) rfl (by first | exact .inl rfl | exact .inr rfl) (de_ix ix_D (de_var (pv 5)) (de_bin op_modD (de_callTy call_intX (by rfl) T.n_int (by decide +kernel) (da_cons (de_ix ix_D (de_var (pv 0)) de_int (fun _ _ => rfl)) da_nil)) de_int) (fun _ _ => rfl)))
      (dss_one (ds_ret (DN.de (dn_lst (da_cons (de_var (pv 6)) (da_cons (de_tup (da_cons de_str (da_cons (de_var (pv 6)) da_nil))) da_nil)))))))))))))) fun ds _ => .inr rfl
def g_law_no_word : Sls → Out :=
    (gSeq (gSet 1 (d2 modD (dL intXD (dCons (d2 ixD (dVar 0) (fun _ => .ok (.int 1))) dNil)) (fun _ => .ok (.int 5))))
    (gSeq (gSet 2 (d2 ixD (fun _ => m_law_reserved []) (d2 modD (dL intXD (dCons (d2 ixD (dVar 0) (fun _ => .ok (.int 2))) dNil)) (fun _ => .ok (.int 53)))))
    (gSeq (gSet 3 (d2 addD (fun _ => .ok (.str (Str.ofString "q"))) (dSl slD (dCall m_law_word (dCons (dVar 0) dNil)) (fun _ => .ok none) (dPart (fun _ => .ok (.int 10))))))
    (gSeq (gIf (dB (d2 eqD (dVar 1) (fun _ => .ok (.int 0))))
    (gRet (d2 addD (fun _ => .ok (.str (Str.ofString "_"))) (dVar 3)))
    gNext)
    (gSeq (gIf (dB (d2 eqD (dVar 1) (fun _ => .ok (.int 1))))
    (gSeq (gSet 4 (d2 addD (fun _ => .ok (.int 1)) (d2 modD (dL intXD (dCons (d2 ixD (dVar 0) (fun _ => .ok (.int 3))) dNil)) (dL lenD (dCons (dVar 3) dNil)))))
    (gRet (d2 addD (d2 addD (dSl slD (dVar 3) (fun _ => .ok none) (dPart (dVar 4))) (d2 ixD (fun _ => .ok (.str (Str.ofString "ABCQZ"))) (d2 modD (dL intXD (dCons (d2 ixD (dVar 0) (fun _ => .ok (.int 4))) dNil)) (fun _ => .ok (.int 5))))) (dSl slD (dVar 3) (dPart (dVar 4)) (fun _ => .ok none)))))
    gNext)
    (gSeq (gIf (dB (d2 eqD (dVar 1) (fun _ => .ok (.int 2))))
    (gRet (d2 addD (dVar 2) (fun _ => .ok (.str (Str.ofString "X")))))
    gNext)
    (gSeq (gIf (dB (d2 eqD (dVar 1) (fun _ => .ok (.int 3))))
    (gRet (d2 addD (fun _ => .ok (.str (Str.ofString "Q"))) (dVar 3)))
    gNext)
    (gRet (d2 addD (d2 addD (dSl slD (dVar 2) (fun _ => .ok none) (dPart (fun _ => .ok (.int 1)))) (fun _ => .ok (.str (Str.ofString "_")))) (dSl slD (dVar 2) (dPart (fun _ => .ok (.int 1))) (fun _ => .ok none)))))))))))
@[simp] theorem st_law_no_word (x0 : PyData) : st0 n_law_no_word [x0] = [.val x0, .un, .un, .un, .un] := rfl
def m_law_no_word (ds : List PyData) : Res PyData := outR (g_law_no_word (st0 n_law_no_word ds))
theorem D_law_no_word {P : Program} {w : World} {K : PySem.W.Frag} {mg : Str → Option Value} {base : Heap} (T : Tx w K mg) : FnD P w K mg base 2 T.a_law_no_word T.d_law_no_word ["draws"] m_law_no_word :=
  have D_law_reserved := D_law_reserved (P := P) (w := w) (base := base) T
  have D_law_word := D_law_word (P := P) (w := w) (base := base) T
  fn_D (g := g_law_no_word) T.F_law_no_word sc_law_no_word (by decide) (fun cdv A outer s H E Fz c =>
      (dss_cons (ds_set nd_law_no_word (i := 1) rfl (by first | exact .inl rfl | exact .inr rfl) (de_bin op_modD (de_callTy call_intX (by rfl) T.n_int (by decide +kernel) (da_cons (de_ix ix_D (de_var (pv 0)) de_int (fun _ _ => rfl)) da_nil)) de_int))
      (dss_cons (ds_set nd_law_no_word (i := 2) rfl (by first | exact .inl rfl | exact .inr rfl) (de_ix ix_D (de_call0 D_law_reserved c (by decide) (by rfl) T.g_law_reserved T.F_law_reserved.kp T.b_law_reserved) (de_bin op_modD (de_callTy call_intX (by rfl) T.n_int (by decide +kernel) (da_cons (de_ix ix_D (de_var (pv 0)) de_int (fun _ _ => rfl)) da_nil)) de_int) (fun _ _ => rfl)))
      (dss_cons (ds_set nd_law_no_word (i := 3) rfl (by first | exact .inl rfl | exact .inr rfl) (de_bin op_addD de_str (de_slice sl_D (de_call D_law_word c (by decide) (by rfl) T.g_law_word T.F_law_word.kp T.b_law_word (da_cons (de_var (pv 0)) da_nil) (dCons_len nil_len)) do_none (do_some de_int))))
      (dss_cons (ds_if (dt_cmp (op_eqV c.room.units) (de_var (pv 1)) de_int (nomark _)) (dss_one (ds_ret (de_bin op_addD de_str (de_var (pv 3))))) dss_nil)
      (dss_cons (ds_if (dt_cmp (op_eqV c.room.units) (de_var (pv 1)) de_int (nomark _)) (dss_cons (ds_set nd_law_no_word (i := 4) rfl (by first | exact .inl rfl | exact .inr rfl) (de_bin op_addD de_int (de_bin op_modD (de_callTy call_intX (by rfl) T.n_int (by decide +kernel) (da_cons (de_ix ix_D (de_var (pv 0)) de_int (fun _ _ => rfl)) da_nil)) (de_callB call_lenV (by rfl) T.n_len (by decide +kernel) (da_cons (de_var (pv 3)) da_nil)))))
      (dss_one (ds_ret (de_bin op_addD (de_bin op_addD (de_slice sl_D (de_var (pv 3)) do_none (do_some (de_var (pv 4)))) (de_ix ix_D de_str (de_bin op_modD (de_callTy call_intX (by rfl) T.n_int (by decide +kernel) (da_cons (de_ix ix_D (de_var (pv 0)) de_int (fun _ _ => rfl)) da_nil)) de_int) (fun _ _ => rfl))) (de_slice sl_D (de_var (pv 3)) (do_some (de_var (pv 4))) do_none))))) dss_nil)
      (dss_cons (ds_if (dt_cmp (op_eqV c.room.units) (de_var (pv 1)) de_int (nomark _)) (dss_one (ds_ret (de_bin op_addD (de_var (pv 2)) de_str))) dss_nil)
      (dss_cons (ds_if (dt_cmp (op_eqV c.room.units) (de_var (pv 1)) de_int (nomark _)) (dss_one (ds_ret (de_bin op_addD de_str (de_var (pv 3))))) dss_nil)
      (dss_one (ds_ret (de_bin op_addD (de_bin op_addD (de_slice sl_D (de_var (pv 2)) do_none (do_some de_int)) de_str) (de_slice sl_D (de_var (pv 2)) (do_some de_int) do_none)))))))))))) fun ds _ => .inr rfl
def g_law_odd_signs : Sls → Out :=
    (gRet (fun _ => .ok (.str (Str.ofString "!\"#$&:;?\u0040[\\]^`{}~"))))
@[simp] theorem st_law_odd_signs  : st0 n_law_odd_signs [] = [] := rfl
def m_law_odd_signs (ds : List PyData) : Res PyData := outR (g_law_odd_signs (st0 n_law_odd_signs ds))
theorem D_law_odd_signs {P : Program} {w : World} {K : PySem.W.Frag} {mg : Str → Option Value} {base : Heap} (T : Tx w K mg) : FnD P w K mg base 1 T.a_law_odd_signs T.d_law_odd_signs [] m_law_odd_signs :=
  fn_D (g := g_law_odd_signs) T.F_law_odd_signs sc_law_odd_signs (by decide) (fun cdv A outer s H E Fz c =>
      (dss_one (ds_ret de_str))) fun ds _ => .inr rfl
def g_law_mistake : Sls → Out :=
    (gSeq (gSet 1 (d2 modD (dL intXD (dCons (d2 ixD (dVar 0) (fun _ => .ok (.int 0))) dNil)) (fun _ => .ok (.int 8))))
    (gSeq (gIf (dB (d2 ltV (dVar 1) (fun _ => .ok (.int 2))))
    (gRet (dFr (dDisp (dCons (d2 ixD (d2 addD (fun _ => m_law_odd_signs []) (fun _ => .ok (.str (Str.ofString "|\t")))) (d2 modD (dL intXD (dCons (d2 ixD (dVar 0) (fun _ => .ok (.int 1))) dNil)) (fun _ => .ok (.int 19)))) (dCons (fun _ => .ok (.int 0)) dNil)))))
    gNext)
    (gSeq (gIf (dB (d2 eqD (dVar 1) (fun _ => .ok (.int 2))))
    (gRet (dFr (dDisp (dCons (dCall m_law_no_word (dCons (dVar 0) dNil)) (dCons (fun _ => .ok (.int 0)) dNil)))))
    gNext)
    (gSeq (gIf (dB (d2 eqD (dVar 1) (fun _ => .ok (.int 3))))
    (gRet (dFr (dDisp (dCons (d2 mulVD (d2 ixD (fun _ => .ok (.str (Str.ofString "abcdefghijklmnopqrst"))) (d2 modD (dL intXD (dCons (d2 ixD (dVar 0) (fun _ => .ok (.int 1))) dNil)) (fun _ => .ok (.int 20)))) (d2 addD (fun _ => .ok (.int 21)) (d2 modD (dL intXD (dCons (d2 ixD (dVar 0) (fun _ => .ok (.int 2))) dNil)) (fun _ => .ok (.int 40))))) (dCons (fun _ => .ok (.int 0)) dNil)))))
    gNext)
    (gSeq (gIf (dB (d2 eqD (dVar 1) (fun _ => .ok (.int 4))))
    (gRet (dFr (dDisp (dCons (d2 mulVD (d2 ixD (fun _ => .ok (.str (Str.ofString "0123456789"))) (d2 modD (dL intXD (dCons (d2 ixD (dVar 0) (fun _ => .ok (.int 1))) dNil)) (fun _ => .ok (.int 10)))) (d2 addD (fun _ => .ok (.int 19)) (d2 modD (dL intXD (dCons (d2 ixD (dVar 0) (fun _ => .ok (.int 2))) dNil)) (fun _ => .ok (.int 42))))) (dCons (fun _ => .ok (.int 0)) dNil)))))
    gNext)
    (gSeq (gSet 2 (d1 (replD (Str.ofString "'") (Str.ofString "''")) (dCall m_law_text (dCons (dSl slD (dVar 0) (dPart (fun _ => .ok (.int 3))) (fun _ => .ok none)) (dCons (d2 modD (dL intXD (dCons (d2 ixD (dVar 0) (fun _ => .ok (.int 1))) dNil)) (fun _ => .ok (.int 30))) dNil)))))
    (gSeq (gIf (dB (d2 eqD (dVar 1) (fun _ => .ok (.int 5))))
    (gRet (dFr (dDisp (dCons (d2 addD (fun _ => .ok (.str (Str.ofString "'"))) (dVar 2)) (dCons (d1 negD (fun _ => .ok (.int 1))) dNil)))))
    gNext)
    (gSeq (gIf (dB (d2 eqD (dVar 1) (fun _ => .ok (.int 6))))
    (gSeq (gSet 3 (d1 (replD (Str.ofString "'") (Str.ofString "-")) (dVar 2)))
    (gSeq (gSet 4 (d2 modD (dL intXD (dCons (d2 ixD (dVar 0) (fun _ => .ok (.int 2))) dNil)) (d2 addD (dL lenD (dCons (dVar 3) dNil)) (fun _ => .ok (.int 1)))))
    (gRet (dFr (dDisp (dCons (d2 addD (d2 addD (d2 addD (d2 addD (fun _ => .ok (.str (Str.ofString "'"))) (dSl slD (dVar 3) (fun _ => .ok none) (dPart (dVar 4)))) (d2 ixD (dFr (dDisp (dCons (fun _ => .ok (.str (Str.ofString "\n"))) (dCons (fun _ => .ok (.str (Str.ofString "\t"))) dNil)))) (d2 modD (dL intXD (dCons (d2 ixD (dVar 0) (fun _ => .ok (.int 3))) dNil)) (fun _ => .ok (.int 2))))) (dSl slD (dVar 3) (dPart (dVar 4)) (fun _ => .ok none))) (fun _ => .ok (.str (Str.ofString "'")))) (dCons (d2 addD (fun _ => .ok (.int 1)) (dVar 4)) dNil)))))))
    gNext)
    (gRet (dFr (dDisp (dCons (d2 addD (d2 addD (fun _ => .ok (.str (Str.ofString "'"))) (d2 mulVD (d2 ixD (fun _ => .ok (.str (Str.ofString "abc~ _9"))) (d2 modD (dL intXD (dCons (d2 ixD (dVar 0) (fun _ => .ok (.int 1))) dNil)) (fun _ => .ok (.int 7)))) (d2 addD (fun _ => .ok (.int 201)) (d2 modD (dL intXD (dCons (d2 ixD (dVar 0) (fun _ => .ok (.int 2))) dNil)) (fun _ => .ok (.int 60)))))) (fun _ => .ok (.str (Str.ofString "'")))) (dCons (fun _ => .ok (.int 0)) dNil)))))))))))))
@[simp] theorem st_law_mistake (x0 : PyData) : st0 n_law_mistake [x0] = [.val x0, .un, .un, .un, .un] := rfl
def m_law_mistake (ds : List PyData) : Res PyData := outR (g_law_mistake (st0 n_law_mistake ds))
theorem D_law_mistake {P : Program} {w : World} {K : PySem.W.Frag} {mg : Str → Option Value} {base : Heap} (T : Tx w K mg) : FnD P w K mg base 3 T.a_law_mistake T.d_law_mistake ["draws"] m_law_mistake :=
  have D_law_text := D_law_text (P := P) (w := w) (base := base) T
  have D_law_no_word := D_law_no_word (P := P) (w := w) (base := base) T
  have D_law_odd_signs := D_law_odd_signs (P := P) (w := w) (base := base) T
  fn_D (g := g_law_mistake) T.F_law_mistake sc_law_mistake (by decide) (fun cdv A outer s H E Fz c =>
      (dss_cons (ds_set nd_law_mistake (i := 1) rfl (by first | exact .inl rfl | exact .inr rfl) (de_bin op_modD (de_callTy call_intX (by rfl) T.n_int (by decide +kernel) (da_cons (de_ix ix_D (de_var (pv 0)) de_int (fun _ _ => rfl)) da_nil)) de_int))
      (dss_cons (ds_if (dt_cmp (op_ltV c.room.units) (de_var (pv 1)) de_int (nomark _)) (dss_one (ds_ret (DN.de (dn_lst (da_cons (de_ix ix_D (de_bin op_addD (de_call0 D_law_odd_signs c (by decide) (by rfl) T.g_law_odd_signs T.F_law_odd_signs.kp T.b_law_odd_signs) de_str) (de_bin op_modD (de_callTy call_intX (by rfl) T.n_int (by decide +kernel) (da_cons (de_ix ix_D (de_var (pv 0)) de_int (fun _ _ => rfl)) da_nil)) de_int) (fun _ _ => rfl)) (da_cons de_int da_nil)))))) dss_nil)
      (dss_cons (ds_if (dt_cmp (op_eqV c.room.units) (de_var (pv 1)) de_int (nomark _)) (dss_one (ds_ret (DN.de (dn_lst (da_cons (de_call D_law_no_word c (by decide) (by rfl) T.g_law_no_word T.F_law_no_word.kp T.b_law_no_word (da_cons (de_var (pv 0)) da_nil) (dCons_len nil_len)) (da_cons de_int da_nil)))))) dss_nil)
      (dss_cons (ds_if (dt_cmp (op_eqV c.room.units) (de_var (pv 1)) de_int (nomark _)) (dss_one (ds_ret (DN.de (dn_lst (da_cons (de_bin op_mulV (de_ix ix_D de_str (de_bin op_modD (de_callTy call_intX (by rfl) T.n_int (by decide +kernel) (da_cons (de_ix ix_D (de_var (pv 0)) de_int (fun _ _ => rfl)) da_nil)) de_int) (fun _ _ => rfl)) (de_bin op_addD de_int (de_bin op_modD (de_callTy call_intX (by rfl) T.n_int (by decide +kernel) (da_cons (de_ix ix_D (de_var (pv 0)) de_int (fun _ _ => rfl)) da_nil)) de_int))) (da_cons de_int da_nil)))))) dss_nil)
      (dss_ifT (op_eqV c.room.units) (nomark _) (de_var (pv 1)) (dss_one (ds_ret (DN.de (dn_lst (da_cons (de_bin op_mulV (de_ix ix_D de_str (de_bin op_modD (de_callTy call_intX (by rfl) T.n_int (by decide +kernel) (da_cons (de_ix ix_D (de_var (pv 0)) de_int (fun _ _ => rfl)) da_nil)) de_int) (fun _ _ => rfl)) (de_bin op_addD de_int (de_bin op_modD (de_callTy call_intX (by rfl) T.n_int (by decide +kernel) (da_cons (de_ix ix_D (de_var (pv 0)) de_int (fun _ _ => rfl)) da_nil)) de_int))) (da_cons de_int da_nil)))))) dss_nil (dsst_cons (dst_set nd_law_mistake (i := 2) rfl (by first | exact .inl rfl | exact .inr rfl) (det_repl (de_call D_law_text c (by decide) (by rfl) T.g_law_text T.F_law_text.kp T.b_law_text (da_cons (de_slice sl_D (de_var (pv 0)) (do_some de_int) do_none) (da_cons (de_bin op_modD (de_callTy call_intX (by rfl) T.n_int (by decide +kernel) (da_cons (de_ix ix_D (de_var (pv 0)) de_int (fun _ _ => rfl)) da_nil)) de_int) da_nil)) (dCons_len (dCons_len nil_len)))))
      (dsst_cons (dst_of (ds_if (dt_cmp (op_eqV c.room.units) (de_var (pv 1)) de_int (nomark _)) (dss_one (ds_ret (DN.de (dn_lst (da_cons (de_bin op_addD de_str (de_var (pv 2))) (da_cons (de_un un_negD de_int) da_nil)))))) dss_nil))
      (dsst_cons (dst_of (ds_ifT (op_eqV c.room.units) (nomark _) (de_var (pv 1)) (dsst_cons (dst_set nd_law_mistake (i := 3) rfl (by first | exact .inl rfl | exact .inr rfl) (det_repl (de_var (pv 2))))
      (dsst_cons (dst_of (ds_set nd_law_mistake (i := 4) rfl (by first | exact .inl rfl | exact .inr rfl) (de_bin op_modD (de_callTy call_intX (by rfl) T.n_int (by decide +kernel) (da_cons (de_ix ix_D (de_var (pv 0)) de_int (fun _ _ => rfl)) da_nil)) (de_bin op_addD (de_callB call_lenV (by rfl) T.n_len (by decide +kernel) (da_cons (de_var (pv 3)) da_nil)) de_int))))
      (dsst_of (dss_one (ds_ret (DN.de (dn_lst (da_cons (de_bin op_addD (de_bin op_addD (de_bin op_addD (de_bin op_addD de_str (de_slice sl_D (de_var (pv 3)) do_none (do_some (de_var (pv 4))))) (de_ix ix_D (DN.de (dn_lst (da_cons de_str (da_cons de_str da_nil)))) (de_bin op_modD (de_callTy call_intX (by rfl) T.n_int (by decide +kernel) (da_cons (de_ix ix_D (de_var (pv 0)) de_int (fun _ _ => rfl)) da_nil)) de_int) (fun _ _ => rfl))) (de_slice sl_D (de_var (pv 3)) (do_some (de_var (pv 4))) do_none)) de_str) (da_cons (de_bin op_addD de_int (de_var (pv 4))) da_nil))))))))) dss_nil))
      (dsst_of (dss_one (ds_ret (DN.de (dn_lst (da_cons (de_bin op_addD (de_bin op_addD de_str (de_bin op_mulV (de_ix ix_D de_str (de_bin op_modD (de_callTy call_intX (by rfl) T.n_int (by decide +kernel) (da_cons (de_ix ix_D (de_var (pv 0)) de_int (fun _ _ => rfl)) da_nil)) de_int) (fun _ _ => rfl)) (de_bin op_addD de_int (de_bin op_modD (de_callTy call_intX (by rfl) T.n_int (by decide +kernel) (da_cons (de_ix ix_D (de_var (pv 0)) de_int (fun _ _ => rfl)) da_nil)) de_int)))) de_str) (da_cons de_int da_nil)))))))))))))))) fun ds _ => .inr rfl
def b1_law_refused : Sls → Out :=
    (gDrop (dCall m_words (dCons (dVar 0) dNil)))
def h2_law_refused (a : Addr) (x : Xn) : Sls → Out :=
    (gSeq (gIf (dOr (dTru (dIsE 2 a [("BadText", false)] x)) (dOr (dTru (dIsE 2 a [("BadText", false)] x)) (dOr (dNot (dTru (d1 (isi1 isInt) (dAt 2 a ["BadText"] x)))) (dTru (d1 (isi1 isBool) (dAt 2 a ["BadText"] x))))))
    (gRet (fun _ => .ok (.bool false)))
    gNext)
    (gRet (dAndV (dIsE 2 a [("BadText", true)] x) (dAndV (dIsE 2 a [("BadText", true)] x) (d2 eqD (dAt 2 a ["BadText"] x) (dVar 1))))))
def g_law_refused : Sls → Out :=
    (gSeq (gTryR [("BadText", true)] 2
    b1_law_refused
    h2_law_refused)
    (gRet (fun _ => .ok (.bool false))))
@[simp] theorem st_law_refused (x0 x1 : PyData) : st0 n_law_refused [x0, x1] = [.val x0, .val x1, .un] := rfl
def m_law_refused (ds : List PyData) : Res PyData := outR (g_law_refused (st0 n_law_refused ds))
theorem D_law_refused {P : Program} {w : World} {K : PySem.W.Frag} {mg : Str → Option Value} {base : Heap} (T : Tx w K mg) : FnD P w K mg base 7 T.a_law_refused T.d_law_refused ["text", "at"] m_law_refused :=
  have D_words := D_words (P := P) (w := w) (base := base) T
  fn_D (g := g_law_refused) T.F_law_refused sc_law_refused (by decide) (fun cdv A outer s H E Fz c =>
      (dss_cons (ds_tryR (i := 2) c nd_law_refused rfl (by rfl) T.xg_BadText T.xk_BadText (fun W2 pn xe c => (dss_one (ds_expr (de_call D_words c (by decide) (by rfl) T.g_words T.F_words.kp T.b_words (da_cons (de_var (pv 0)) da_nil) (dCons_len nil_len))))) (fun a oe cls d pn x H1 hz hf hx xd => (dss_cons (ds_if (DW.dt (dw_or (dt_truth (de_isE (i := 2) (vc := .ref T.xa_BadForm) T.xi_BadForm hz hf hx xd (pv 2) (pe_glob (by rfl) T.xg_BadForm rfl) (fun _ r => r) (by rfl) T.n_isinstance)) (dw_or (dt_truth (de_isE (i := 2) (vc := .ref T.xa_TooMuch) T.xi_TooMuch hz hf hx xd (pv 2) (pe_glob (by rfl) T.xg_TooMuch rfl) (fun _ r => r) (by rfl) T.n_isinstance)) (dw_or (dt_not (dt_truth (de_isi isi_int (by rfl) T.n_isinstance (by decide +kernel) (by rfl) T.n_int (by decide +kernel) (de_at (i := 2) T.x_ats hz hf hx xd (pv 2))))) (dw_or1 (dt_truth (de_isi isi_bool (by rfl) T.n_isinstance (by decide +kernel) (by rfl) T.n_bool (by decide +kernel) (de_at (i := 2) T.x_ats hz hf hx xd (pv 2))))))))) (dss_one (ds_ret de_bl)) dss_nil)
      (dss_one (ds_ret (de_and (de_isE (i := 2) (vc := .ref T.xa_PeristyleError) T.xi_PeristyleError hz hf hx xd (pv 2) (pe_glob (by rfl) T.xg_PeristyleError rfl) (fun _ r => r) (by rfl) T.n_isinstance) (de_and (de_isE (i := 2) (vc := .ty "ValueError") T.xi_ValueError hz hf hx xd (pv 2) (pe_bltn (v := .ty "ValueError") (by rfl) T.n_ValueError (by decide +kernel) rfl) (fun _ r => r) (by rfl) T.n_isinstance) (de_one (de_cmp (op_eqV c.room.units) (de_at (i := 2) T.x_ats hz hf hx xd (pv 2)) (de_var (pv 1)) (nomark _))))))))))
      (dss_one (ds_ret de_bl)))) fun ds _ => .inr rfl
def b1_law : Sls → Out :=
    (gSeq (gSet 4 (dCall m_law_thing (dCons (dCall m_law_draws (dCons (dCall m_law_cell (dCons (dVar 0) (dCons (d2 addD (fun _ => .ok (.int 2)) (dVar 3)) dNil))) (dCons (fun _ => .ok (.int 11)) dNil))) dNil)))
    (gIf (dB (d2 ltV (dL lenD (dCons (dVar 1) dNil)) (fun _ => .ok (.int 1500))))
    (gSeq (gSet 1 (d2 addD (d2 addD (dVar 1) (d2 ixD (dVar 4) (fun _ => .ok (.int 0)))) (d2 ixD (dFr (dDisp (dCons (fun _ => .ok (.str (Str.ofString " "))) (dCons (fun _ => .ok (.str (Str.ofString "\n"))) (dCons (fun _ => .ok (.str (Str.ofString "  "))) dNil))))) (d2 modD (dL intXD (dCons (dCall m_law_cell (dCons (dVar 0) (dCons (d2 addD (fun _ => .ok (.int 2)) (dVar 3)) dNil))) dNil)) (fun _ => .ok (.int 3))))))
    (gSet 2 (d2 addD (dVar 2) (fun _ => .ok (.int 1)))))
    gNext))
def b2_law : Sls → Out :=
    (gSeq (gSet 5 (dCall m_law_draws (dCons (d2 addD (dCall m_law_cell (dCons (dVar 0) (dCons (d2 addD (fun _ => .ok (.int 1)) (d2 mulVD (fun _ => .ok (.int 15)) (dVar 3))) dNil))) (dVar 3)) (dCons (fun _ => .ok (.int 12)) dNil))))
    (gSeq (gSet 6 (dCall m_law_mistake (dCons (dVar 5) dNil)))
    (gSeq (gSet 7 (fun _ => .ok (.str (Str.ofString ""))))
    (gSeq (gIf (dB (d2 geD (d2 ixD (dVar 6) (fun _ => .ok (.int 1))) (fun _ => .ok (.int 0))))
    (gSet 7 (d2 ixD (dFr (dDisp (dCons (fun _ => .ok (.str (Str.ofString " a"))) (dCons (fun _ => .ok (.str (Str.ofString " ' "))) (dCons (fun _ => .ok (.str (Str.ofString "\n_"))) (dCons (fun _ => .ok (.str (Str.ofString ""))) (dCons (fun _ => .ok (.str (Str.ofString " 1 2"))) (dCons (fun _ => .ok (.str (Str.ofString " ;"))) dNil)))))))) (d2 modD (dL intXD (dCons (d2 ixD (dVar 5) (fun _ => .ok (.int 11))) dNil)) (fun _ => .ok (.int 6)))))
    gNext)
    (gIf (dNot (dTru (dCall m_law_refused (dCons (d2 addD (d2 addD (dVar 1) (d2 ixD (dVar 6) (fun _ => .ok (.int 0)))) (dVar 7)) (dCons (d2 addD (dL lenD (dCons (dVar 1) dNil)) (dL max2D (dCons (fun _ => .ok (.int 0)) (dCons (d2 ixD (dVar 6) (fun _ => .ok (.int 1))) dNil)))) dNil)))))
    (gRet (fun _ => .ok (.bool false)))
    gNext)))))
def g_law : Sls → Out :=
    (gSeq (gSet 1 (d2 ixD (dFr (dDisp (dCons (fun _ => .ok (.str (Str.ofString ""))) (dCons (fun _ => .ok (.str (Str.ofString " "))) (dCons (fun _ => .ok (.str (Str.ofString "\n"))) dNil))))) (d2 modD (dL intXD (dCons (dCall m_law_cell (dCons (dVar 0) (dCons (fun _ => .ok (.int 0)) dNil))) dNil)) (fun _ => .ok (.int 3)))))
    (gSeq (gSet 2 (fun _ => .ok (.int 0)))
    (gSeq (gFor (dRng rng1 (dCons (d2 modD (d2 fdivD (dL intXD (dCons (dCall m_law_cell (dCons (dVar 0) (dCons (fun _ => .ok (.int 0)) dNil))) dNil)) (fun _ => .ok (.int 3))) (fun _ => .ok (.int 13))) dNil)) (bName 3)
    b1_law)
    (gSeq (gIf (dB (d2 neD (dL lenD (dCons (dCall m_words (dCons (dVar 1) dNil)) dNil)) (dVar 2)))
    (gRet (fun _ => .ok (.bool false)))
    gNext)
    (gSeq (gFor (dRng rng1 (dCons (fun _ => .ok (.int 4)) dNil)) (bName 3)
    b2_law)
    (gRet (fun _ => .ok (.bool true))))))))
@[simp] theorem st_law (x0 : PyData) : st0 n_law [x0] = [.val x0, .un, .un, .un, .un, .un, .un, .un] := rfl
def m_law (ds : List PyData) : Res PyData := outR (g_law (st0 n_law ds))
theorem D_law {P : Program} {w : World} {K : PySem.W.Frag} {mg : Str → Option Value} {base : Heap} (T : Tx w K mg) : FnD P w K mg base 8 T.a_law T.d_law ["script"] m_law :=
  have D_law_cell := D_law_cell (P := P) (w := w) (base := base) T
  have D_law_thing := D_law_thing (P := P) (w := w) (base := base) T
  have D_law_draws := D_law_draws (P := P) (w := w) (base := base) T
  have D_words := D_words (P := P) (w := w) (base := base) T
  have D_law_mistake := D_law_mistake (P := P) (w := w) (base := base) T
  have D_law_refused := D_law_refused (P := P) (w := w) (base := base) T
  fn_D (g := g_law) T.F_law sc_law (by decide) (fun cdv A outer s H E Fz c =>
      (dss_cons (ds_set nd_law (i := 1) rfl (by first | exact .inl rfl | exact .inr rfl) (de_ix ix_D (DN.de (dn_lst (da_cons de_str (da_cons de_str (da_cons de_str da_nil))))) (de_bin op_modD (de_callTy call_intX (by rfl) T.n_int (by decide +kernel) (da_cons (de_call D_law_cell c (by decide) (by rfl) T.g_law_cell T.F_law_cell.kp T.b_law_cell (da_cons (de_var (pv 0)) (da_cons de_int da_nil)) (dCons_len (dCons_len nil_len))) da_nil)) de_int) (fun _ _ => rfl)))
      (dss_cons (ds_set nd_law (i := 2) rfl (by first | exact .inl rfl | exact .inr rfl) de_int)
      (dss_cons (ds_for c (di_range1 (by rfl) T.n_range (da_cons (de_bin op_modD (de_bin op_fdivD (de_callTy call_intX (by rfl) T.n_int (by decide +kernel) (da_cons (de_call D_law_cell c (by decide) (by rfl) T.g_law_cell T.F_law_cell.kp T.b_law_cell (da_cons (de_var (pv 0)) (da_cons de_int da_nil)) (dCons_len (dCons_len nil_len))) da_nil)) de_int) de_int) da_nil)) (dg_name nd_law (i := 3) rfl (by first | exact .inl rfl | exact .inr rfl)) (dss_cons (ds_set nd_law (i := 4) rfl (by first | exact .inl rfl | exact .inr rfl) (de_call D_law_thing c (by decide) (by rfl) T.g_law_thing T.F_law_thing.kp T.b_law_thing (da_cons (de_call D_law_draws c (by decide) (by rfl) T.g_law_draws T.F_law_draws.kp T.b_law_draws (da_cons (de_call D_law_cell c (by decide) (by rfl) T.g_law_cell T.F_law_cell.kp T.b_law_cell (da_cons (de_var (pv 0)) (da_cons (de_bin op_addD de_int (de_var (pv 3))) da_nil)) (dCons_len (dCons_len nil_len))) (da_cons de_int da_nil)) (dCons_len (dCons_len nil_len))) da_nil) (dCons_len nil_len)))
      (dss_one (ds_if (dt_cmp (op_ltV c.room.units) (de_callB call_lenV (by rfl) T.n_len (by decide +kernel) (da_cons (de_var (pv 1)) da_nil)) de_int (nomark _)) (dss_cons (ds_set nd_law (i := 1) rfl (by first | exact .inl rfl | exact .inr rfl) (de_bin op_addD (de_bin op_addD (de_var (pv 1)) (de_ix ix_D (de_var (pv 4)) de_int (fun _ _ => rfl))) (de_ix ix_D (DN.de (dn_lst (da_cons de_str (da_cons de_str (da_cons de_str da_nil))))) (de_bin op_modD (de_callTy call_intX (by rfl) T.n_int (by decide +kernel) (da_cons (de_call D_law_cell c (by decide) (by rfl) T.g_law_cell T.F_law_cell.kp T.b_law_cell (da_cons (de_var (pv 0)) (da_cons (de_bin op_addD de_int (de_var (pv 3))) da_nil)) (dCons_len (dCons_len nil_len))) da_nil)) de_int) (fun _ _ => rfl))))
      (dss_one (ds_set nd_law (i := 2) rfl (by first | exact .inl rfl | exact .inr rfl) (de_bin op_addD (de_var (pv 2)) de_int)))) dss_nil))))
      (dss_cons (ds_if (dt_cmp (op_neV c.room.units) (de_callB call_lenV (by rfl) T.n_len (by decide +kernel) (da_cons (de_call D_words c (by decide) (by rfl) T.g_words T.F_words.kp T.b_words (da_cons (de_var (pv 1)) da_nil) (dCons_len nil_len)) da_nil)) (de_var (pv 2)) (nomark _)) (dss_one (ds_ret de_bl)) dss_nil)
      (dss_cons (ds_for c (di_range1 (by rfl) T.n_range (da_cons de_int da_nil)) (dg_name nd_law (i := 3) rfl (by first | exact .inl rfl | exact .inr rfl)) (dss_cons (ds_set nd_law (i := 5) rfl (by first | exact .inl rfl | exact .inr rfl) (de_call D_law_draws c (by decide) (by rfl) T.g_law_draws T.F_law_draws.kp T.b_law_draws (da_cons (de_bin op_addD (de_call D_law_cell c (by decide) (by rfl) T.g_law_cell T.F_law_cell.kp T.b_law_cell (da_cons (de_var (pv 0)) (da_cons (de_bin op_addD de_int (de_bin op_mulV de_int (de_var (pv 3)))) da_nil)) (dCons_len (dCons_len nil_len))) (de_var (pv 3))) (da_cons de_int da_nil)) (dCons_len (dCons_len nil_len))))
      (dss_cons (ds_set nd_law (i := 6) rfl (by first | exact .inl rfl | exact .inr rfl) (de_call D_law_mistake c (by decide) (by rfl) T.g_law_mistake T.F_law_mistake.kp T.b_law_mistake (da_cons (de_var (pv 5)) da_nil) (dCons_len nil_len)))
      (dss_cons (ds_set nd_law (i := 7) rfl (by first | exact .inl rfl | exact .inr rfl) de_str)
      (dss_cons (ds_if (dt_cmp op_geD (de_ix ix_D (de_var (pv 6)) de_int (fun _ _ => rfl)) de_int (nomark _)) (dss_one (ds_set nd_law (i := 7) rfl (by first | exact .inl rfl | exact .inr rfl) (de_ix ix_D (DN.de (dn_lst (da_cons de_str (da_cons de_str (da_cons de_str (da_cons de_str (da_cons de_str (da_cons de_str da_nil)))))))) (de_bin op_modD (de_callTy call_intX (by rfl) T.n_int (by decide +kernel) (da_cons (de_ix ix_D (de_var (pv 5)) de_int (fun _ _ => rfl)) da_nil)) de_int) (fun _ _ => rfl)))) dss_nil)
      (dss_one (ds_if (dt_not (dt_truth (de_call D_law_refused c (by decide) (by rfl) T.g_law_refused T.F_law_refused.kp T.b_law_refused (da_cons (de_bin op_addD (de_bin op_addD (de_var (pv 1)) (de_ix ix_D (de_var (pv 6)) de_int (fun _ _ => rfl))) (de_var (pv 7))) (da_cons (de_bin op_addD (de_callB call_lenV (by rfl) T.n_len (by decide +kernel) (da_cons (de_var (pv 1)) da_nil)) (de_callB (call_max2W c.calm) (by rfl) T.n_max (by decide +kernel) (da_cons de_int (da_cons (de_ix ix_D (de_var (pv 6)) de_int (fun _ _ => rfl)) da_nil)))) da_nil)) (dCons_len (dCons_len nil_len))))) (dss_one (ds_ret de_bl)) dss_nil)))))))
      (dss_one (ds_ret de_bl)))))))) fun ds _ => .inr rfl

theorem all_mk {l : PySem.W.OpenLaw} {w : World} {K : PySem.W.Frag} {h : Heap} {mg : Str → Option Value} {fa : Addr} (X : K.In h) (G : h.Ns mainGlobals mg) (hfa : mg "law" = some (.ref fa))
    (pure : ∀ ns : List Int, ns.length ≤ 63 → m_law [.list (ns.map .int)] = .ok (.bool true))
    {fa0 : Addr} {od0 an0 : Option Addr} {sl0 : Array (Option Value)} {oc0 kV0 dc0 pm0 cd0 ct0 : Value}
    {fa1 : Addr} {od1 an1 : Option Addr} {sl1 : Array (Option Value)} {oc1 kV1 dc1 pm1 cd1 ct1 : Value}
    {fa2 : Addr} {od2 an2 : Option Addr} {sl2 : Array (Option Value)} {oc2 kV2 dc2 pm2 cd2 ct2 : Value}
    {fa3 : Addr} {od3 an3 : Option Addr} {sl3 : Array (Option Value)} {oc3 kV3 dc3 pm3 cd3 ct3 : Value}
    {fa4 : Addr} {od4 an4 : Option Addr} {sl4 : Array (Option Value)} {oc4 kV4 dc4 pm4 cd4 ct4 : Value}
    {fa5 : Addr} {od5 an5 : Option Addr} {sl5 : Array (Option Value)} {oc5 kV5 dc5 pm5 cd5 ct5 : Value}
    {fa6 : Addr} {od6 an6 : Option Addr} {sl6 : Array (Option Value)} {oc6 kV6 dc6 pm6 cd6 ct6 : Value}
    {fa7 : Addr} {od7 an7 : Option Addr} {sl7 : Array (Option Value)} {oc7 kV7 dc7 pm7 cd7 ct7 : Value}
    {fa8 : Addr} {od8 an8 : Option Addr} {sl8 : Array (Option Value)} {oc8 kV8 dc8 pm8 cd8 ct8 : Value}
    {fa9 : Addr} {od9 an9 : Option Addr} {sl9 : Array (Option Value)} {oc9 kV9 dc9 pm9 cd9 ct9 : Value}
    {fa10 : Addr} {od10 an10 : Option Addr} {sl10 : Array (Option Value)} {oc10 kV10 dc10 pm10 cd10 ct10 : Value}
    {fa11 : Addr} {od11 an11 : Option Addr} {sl11 : Array (Option Value)} {oc11 kV11 dc11 pm11 cd11 ct11 : Value}
    {fa12 : Addr} {od12 an12 : Option Addr} {sl12 : Array (Option Value)} {oc12 kV12 dc12 pm12 cd12 ct12 : Value}
    {fa13 : Addr} {od13 an13 : Option Addr} {sl13 : Array (Option Value)} {oc13 kV13 dc13 pm13 cd13 ct13 : Value}
    {fa14 : Addr} {od14 an14 : Option Addr} {sl14 : Array (Option Value)} {oc14 kV14 dc14 pm14 cd14 ct14 : Value}
    {fa15 : Addr} {od15 an15 : Option Addr} {sl15 : Array (Option Value)} {oc15 kV15 dc15 pm15 cd15 ct15 : Value}
    {fa16 : Addr} {od16 an16 : Option Addr} {sl16 : Array (Option Value)} {oc16 kV16 dc16 pm16 cd16 ct16 : Value}
    {fa17 : Addr} {od17 an17 : Option Addr} {sl17 : Array (Option Value)} {oc17 kV17 dc17 pm17 cd17 ct17 : Value}
    {fa18 : Addr} {od18 an18 : Option Addr} {sl18 : Array (Option Value)} {oc18 kV18 dc18 pm18 cd18 ct18 : Value}
    {fa19 : Addr} {od19 an19 : Option Addr} {sl19 : Array (Option Value)} {oc19 kV19 dc19 pm19 cd19 ct19 : Value}
    {fa20 : Addr} {od20 an20 : Option Addr} {sl20 : Array (Option Value)} {oc20 kV20 dc20 pm20 cd20 ct20 : Value}
    {fa21 : Addr} {od21 an21 : Option Addr} {sl21 : Array (Option Value)} {oc21 kV21 dc21 pm21 cd21 ct21 : Value}
    {fa22 : Addr} {od22 an22 : Option Addr} {sl22 : Array (Option Value)} {oc22 kV22 dc22 pm22 cd22 ct22 : Value}
    {fa23 : Addr} {od23 an23 : Option Addr} {sl23 : Array (Option Value)} {oc23 kV23 dc23 pm23 cd23 ct23 : Value}
    {fa24 : Addr} {od24 an24 : Option Addr} {sl24 : Array (Option Value)} {oc24 kV24 dc24 pm24 cd24 ct24 : Value}
    {fa25 : Addr} {od25 an25 : Option Addr} {sl25 : Array (Option Value)} {oc25 kV25 dc25 pm25 cd25 ct25 : Value}
    (a0 : PySem.W.nsIn K mainGlobals "is_figure" = some (some (.ref fa0))) (l0 : K.lookup fa0 = some ⟨oc0, od0, .func (PySem.W.fnOf "is_figure" "is_figure" (defArgs s_is_figure) (defBody s_is_figure) (defScope s_is_figure) .none kV0 dc0 pm0 an0 cd0 ct0), sl0⟩) (c0 : PySem.W.codeIn K cd0 "is_figure" = true) (k0 : PySem.W.keepIn K (.ref fa0) = true)
    (a1 : PySem.W.nsIn K mainGlobals "is_letter" = some (some (.ref fa1))) (l1 : K.lookup fa1 = some ⟨oc1, od1, .func (PySem.W.fnOf "is_letter" "is_letter" (defArgs s_is_letter) (defBody s_is_letter) (defScope s_is_letter) .none kV1 dc1 pm1 an1 cd1 ct1), sl1⟩) (c1 : PySem.W.codeIn K cd1 "is_letter" = true) (k1 : PySem.W.keepIn K (.ref fa1) = true)
    (a2 : PySem.W.nsIn K mainGlobals "is_reserved" = some (some (.ref fa2))) (l2 : K.lookup fa2 = some ⟨oc2, od2, .func (PySem.W.fnOf "is_reserved" "is_reserved" (defArgs s_is_reserved) (defBody s_is_reserved) (defScope s_is_reserved) .none kV2 dc2 pm2 an2 cd2 ct2), sl2⟩) (c2 : PySem.W.codeIn K cd2 "is_reserved" = true) (k2 : PySem.W.keepIn K (.ref fa2) = true)
    (a3 : PySem.W.nsIn K mainGlobals "is_name" = some (some (.ref fa3))) (l3 : K.lookup fa3 = some ⟨oc3, od3, .func (PySem.W.fnOf "is_name" "is_name" (defArgs s_is_name) (defBody s_is_name) (defScope s_is_name) .none kV3 dc3 pm3 an3 cd3 ct3), sl3⟩) (c3 : PySem.W.codeIn K cd3 "is_name" = true) (k3 : PySem.W.keepIn K (.ref fa3) = true)
    (a4 : PySem.W.nsIn K mainGlobals "is_text" = some (some (.ref fa4))) (l4 : K.lookup fa4 = some ⟨oc4, od4, .func (PySem.W.fnOf "is_text" "is_text" (defArgs s_is_text) (defBody s_is_text) (defScope s_is_text) .none kV4 dc4 pm4 an4 cd4 ct4), sl4⟩) (c4 : PySem.W.codeIn K cd4 "is_text" = true) (k4 : PySem.W.keepIn K (.ref fa4) = true)
    (a5 : PySem.W.nsIn K mainGlobals "word_at" = some (some (.ref fa5))) (l5 : K.lookup fa5 = some ⟨oc5, od5, .func (PySem.W.fnOf "word_at" "word_at" (defArgs s_word_at) (defBody s_word_at) (defScope s_word_at) .none kV5 dc5 pm5 an5 cd5 ct5), sl5⟩) (c5 : PySem.W.codeIn K cd5 "word_at" = true) (k5 : PySem.W.keepIn K (.ref fa5) = true)
    (a6 : PySem.W.nsIn K mainGlobals "number_at" = some (some (.ref fa6))) (l6 : K.lookup fa6 = some ⟨oc6, od6, .func (PySem.W.fnOf "number_at" "number_at" (defArgs s_number_at) (defBody s_number_at) (defScope s_number_at) .none kV6 dc6 pm6 an6 cd6 ct6), sl6⟩) (c6 : PySem.W.codeIn K cd6 "number_at" = true) (k6 : PySem.W.keepIn K (.ref fa6) = true)
    (a7 : PySem.W.nsIn K mainGlobals "text_at" = some (some (.ref fa7))) (l7 : K.lookup fa7 = some ⟨oc7, od7, .func (PySem.W.fnOf "text_at" "text_at" (defArgs s_text_at) (defBody s_text_at) (defScope s_text_at) .none kV7 dc7 pm7 an7 cd7 ct7), sl7⟩) (c7 : PySem.W.codeIn K cd7 "text_at" = true) (k7 : PySem.W.keepIn K (.ref fa7) = true)
    (a8 : PySem.W.nsIn K mainGlobals "mark_at" = some (some (.ref fa8))) (l8 : K.lookup fa8 = some ⟨oc8, od8, .func (PySem.W.fnOf "mark_at" "mark_at" (defArgs s_mark_at) (defBody s_mark_at) (defScope s_mark_at) .none kV8 dc8 pm8 an8 cd8 ct8), sl8⟩) (c8 : PySem.W.codeIn K cd8 "mark_at" = true) (k8 : PySem.W.keepIn K (.ref fa8) = true)
    (a9 : PySem.W.nsIn K mainGlobals "thing_at" = some (some (.ref fa9))) (l9 : K.lookup fa9 = some ⟨oc9, od9, .func (PySem.W.fnOf "thing_at" "thing_at" (defArgs s_thing_at) (defBody s_thing_at) (defScope s_thing_at) .none kV9 dc9 pm9 an9 cd9 ct9), sl9⟩) (c9 : PySem.W.codeIn K cd9 "thing_at" = true) (k9 : PySem.W.keepIn K (.ref fa9) = true)
    (a10 : PySem.W.nsIn K mainGlobals "scan" = some (some (.ref fa10))) (l10 : K.lookup fa10 = some ⟨oc10, od10, .func (PySem.W.fnOf "scan" "scan" (defArgs s_scan) (defBody s_scan) (defScope s_scan) .none kV10 dc10 pm10 an10 cd10 ct10), sl10⟩) (c10 : PySem.W.codeIn K cd10 "scan" = true) (k10 : PySem.W.keepIn K (.ref fa10) = true)
    (a11 : PySem.W.nsIn K mainGlobals "words" = some (some (.ref fa11))) (l11 : K.lookup fa11 = some ⟨oc11, od11, .func (PySem.W.fnOf "words" "words" (defArgs s_words) (defBody s_words) (defScope s_words) .none kV11 dc11 pm11 an11 cd11 ct11), sl11⟩) (c11 : PySem.W.codeIn K cd11 "words" = true) (k11 : PySem.W.keepIn K (.ref fa11) = true)
    (a12 : PySem.W.nsIn K mainGlobals "_law_cell" = some (some (.ref fa12))) (l12 : K.lookup fa12 = some ⟨oc12, od12, .func (PySem.W.fnOf "_law_cell" "_law_cell" (defArgs s_law_cell) (defBody s_law_cell) (defScope s_law_cell) .none kV12 dc12 pm12 an12 cd12 ct12), sl12⟩) (c12 : PySem.W.codeIn K cd12 "_law_cell" = true) (k12 : PySem.W.keepIn K (.ref fa12) = true)
    (a13 : PySem.W.nsIn K mainGlobals "_law_mixed" = some (some (.ref fa13))) (l13 : K.lookup fa13 = some ⟨oc13, od13, .func (PySem.W.fnOf "_law_mixed" "_law_mixed" (defArgs s_law_mixed) (defBody s_law_mixed) (defScope s_law_mixed) .none kV13 dc13 pm13 an13 cd13 ct13), sl13⟩) (c13 : PySem.W.codeIn K cd13 "_law_mixed" = true) (k13 : PySem.W.keepIn K (.ref fa13) = true)
    (a14 : PySem.W.nsIn K mainGlobals "_law_draws" = some (some (.ref fa14))) (l14 : K.lookup fa14 = some ⟨oc14, od14, .func (PySem.W.fnOf "_law_draws" "_law_draws" (defArgs s_law_draws) (defBody s_law_draws) (defScope s_law_draws) .none kV14 dc14 pm14 an14 cd14 ct14), sl14⟩) (c14 : PySem.W.codeIn K cd14 "_law_draws" = true) (k14 : PySem.W.keepIn K (.ref fa14) = true)
    (a15 : PySem.W.nsIn K mainGlobals "_law_signs" = some (some (.ref fa15))) (l15 : K.lookup fa15 = some ⟨oc15, od15, .func (PySem.W.fnOf "_law_signs" "_law_signs" (defArgs s_law_signs) (defBody s_law_signs) (defScope s_law_signs) .none kV15 dc15 pm15 an15 cd15 ct15), sl15⟩) (c15 : PySem.W.codeIn K cd15 "_law_signs" = true) (k15 : PySem.W.keepIn K (.ref fa15) = true)
    (a16 : PySem.W.nsIn K mainGlobals "_law_text" = some (some (.ref fa16))) (l16 : K.lookup fa16 = some ⟨oc16, od16, .func (PySem.W.fnOf "_law_text" "_law_text" (defArgs s_law_text) (defBody s_law_text) (defScope s_law_text) .none kV16 dc16 pm16 an16 cd16 ct16), sl16⟩) (c16 : PySem.W.codeIn K cd16 "_law_text" = true) (k16 : PySem.W.keepIn K (.ref fa16) = true)
    (a17 : PySem.W.nsIn K mainGlobals "_law_reserved" = some (some (.ref fa17))) (l17 : K.lookup fa17 = some ⟨oc17, od17, .func (PySem.W.fnOf "_law_reserved" "_law_reserved" (defArgs s_law_reserved) (defBody s_law_reserved) (defScope s_law_reserved) .none kV17 dc17 pm17 an17 cd17 ct17), sl17⟩) (c17 : PySem.W.codeIn K cd17 "_law_reserved" = true) (k17 : PySem.W.keepIn K (.ref fa17) = true)
    (a18 : PySem.W.nsIn K mainGlobals "_law_cased" = some (some (.ref fa18))) (l18 : K.lookup fa18 = some ⟨oc18, od18, .func (PySem.W.fnOf "_law_cased" "_law_cased" (defArgs s_law_cased) (defBody s_law_cased) (defScope s_law_cased) .none kV18 dc18 pm18 an18 cd18 ct18), sl18⟩) (c18 : PySem.W.codeIn K cd18 "_law_cased" = true) (k18 : PySem.W.keepIn K (.ref fa18) = true)
    (a19 : PySem.W.nsIn K mainGlobals "_law_word" = some (some (.ref fa19))) (l19 : K.lookup fa19 = some ⟨oc19, od19, .func (PySem.W.fnOf "_law_word" "_law_word" (defArgs s_law_word) (defBody s_law_word) (defScope s_law_word) .none kV19 dc19 pm19 an19 cd19 ct19), sl19⟩) (c19 : PySem.W.codeIn K cd19 "_law_word" = true) (k19 : PySem.W.keepIn K (.ref fa19) = true)
    (a20 : PySem.W.nsIn K mainGlobals "_law_thing" = some (some (.ref fa20))) (l20 : K.lookup fa20 = some ⟨oc20, od20, .func (PySem.W.fnOf "_law_thing" "_law_thing" (defArgs s_law_thing) (defBody s_law_thing) (defScope s_law_thing) .none kV20 dc20 pm20 an20 cd20 ct20), sl20⟩) (c20 : PySem.W.codeIn K cd20 "_law_thing" = true) (k20 : PySem.W.keepIn K (.ref fa20) = true)
    (a21 : PySem.W.nsIn K mainGlobals "_law_no_word" = some (some (.ref fa21))) (l21 : K.lookup fa21 = some ⟨oc21, od21, .func (PySem.W.fnOf "_law_no_word" "_law_no_word" (defArgs s_law_no_word) (defBody s_law_no_word) (defScope s_law_no_word) .none kV21 dc21 pm21 an21 cd21 ct21), sl21⟩) (c21 : PySem.W.codeIn K cd21 "_law_no_word" = true) (k21 : PySem.W.keepIn K (.ref fa21) = true)
    (a22 : PySem.W.nsIn K mainGlobals "_law_odd_signs" = some (some (.ref fa22))) (l22 : K.lookup fa22 = some ⟨oc22, od22, .func (PySem.W.fnOf "_law_odd_signs" "_law_odd_signs" (defArgs s_law_odd_signs) (defBody s_law_odd_signs) (defScope s_law_odd_signs) .none kV22 dc22 pm22 an22 cd22 ct22), sl22⟩) (c22 : PySem.W.codeIn K cd22 "_law_odd_signs" = true) (k22 : PySem.W.keepIn K (.ref fa22) = true)
    (a23 : PySem.W.nsIn K mainGlobals "_law_mistake" = some (some (.ref fa23))) (l23 : K.lookup fa23 = some ⟨oc23, od23, .func (PySem.W.fnOf "_law_mistake" "_law_mistake" (defArgs s_law_mistake) (defBody s_law_mistake) (defScope s_law_mistake) .none kV23 dc23 pm23 an23 cd23 ct23), sl23⟩) (c23 : PySem.W.codeIn K cd23 "_law_mistake" = true) (k23 : PySem.W.keepIn K (.ref fa23) = true)
    (a24 : PySem.W.nsIn K mainGlobals "_law_refused" = some (some (.ref fa24))) (l24 : K.lookup fa24 = some ⟨oc24, od24, .func (PySem.W.fnOf "_law_refused" "_law_refused" (defArgs s_law_refused) (defBody s_law_refused) (defScope s_law_refused) .none kV24 dc24 pm24 an24 cd24 ct24), sl24⟩) (c24 : PySem.W.codeIn K cd24 "_law_refused" = true) (k24 : PySem.W.keepIn K (.ref fa24) = true)
    (a25 : PySem.W.nsIn K mainGlobals "law" = some (some (.ref fa25))) (l25 : K.lookup fa25 = some ⟨oc25, od25, .func (PySem.W.fnOf "law" "law" (defArgs s_law) (defBody s_law) (defScope s_law) .none kV25 dc25 pm25 an25 cd25 ct25), sl25⟩) (c25 : PySem.W.codeIn K cd25 "law" = true) (k25 : PySem.W.keepIn K (.ref fa25) = true)
    (z0 : PySem.W.nsIn K mainGlobals "ValueError" = some none)
    (z1 : PySem.W.nsIn K mainGlobals "abs" = some none)
    (z2 : PySem.W.nsIn K mainGlobals "bool" = some none)
    (z3 : PySem.W.nsIn K mainGlobals "int" = some none)
    (z4 : PySem.W.nsIn K mainGlobals "isinstance" = some none)
    (z5 : PySem.W.nsIn K mainGlobals "len" = some none)
    (z6 : PySem.W.nsIn K mainGlobals "max" = some none)
    (z7 : PySem.W.nsIn K mainGlobals "ord" = some none)
    (z8 : PySem.W.nsIn K mainGlobals "range" = some none)
    (z9 : PySem.W.nsIn K mainGlobals "str" = some none)
    {ct_0 : Tok} (y0 : PySem.W.nsIn K mainGlobals "LONGEST" = some (some (.int 200 ct_0)))
    {ct_1 : Tok} (y1 : PySem.W.nsIn K mainGlobals "LONGEST_NAME" = some (some (.int 20 ct_1)))
    {ca2 : Addr} (y2 : PySem.W.nsIn K mainGlobals "MARKS" = some (some (.ref ca2))) (x2 : denB K k_MARKS (.ref ca2) = true)
    {ct_3 : Tok} (y3 : PySem.W.nsIn K mainGlobals "MOST_FIGURES" = some (some (.int 18 ct_3)))
    {ct_4 : Tok} (y4 : PySem.W.nsIn K mainGlobals "PERCENT" = some (some (.int 37 ct_4)))
    {ca5 : Addr} (y5 : PySem.W.nsIn K mainGlobals "RESERVED" = some (some (.ref ca5))) (x5 : denB K k_RESERVED (.ref ca5) = true)
    {ca_BadForm : Addr} (ga_BadForm : PySem.W.nsIn K mainGlobals "BadForm" = some (some (.ref ca_BadForm)))
    {ca_BadText : Addr} (ga_BadText : PySem.W.nsIn K mainGlobals "BadText" = some (some (.ref ca_BadText)))
    {en_BadText eq_BadText : Str} {eN_BadText : Addr} {eb_BadText em_BadText : List Value} {es_BadText : List Str} {eu_BadText : List Value} {ea_BadText : Bool} {ec_BadText : Option Bool} {ed_BadText : Option Addr} {e0_BadText e1_BadText e2_BadText e3_BadText e5_BadText : Option Value} (lx_BadText : K.lookup ca_BadText = some (excClassObj en_BadText eq_BadText ca_BadText eN_BadText eb_BadText em_BadText true es_BadText eu_BadText ea_BadText ec_BadText ed_BadText e0_BadText e1_BadText e2_BadText e3_BadText e5_BadText "ValueError.__new__")) (rx_BadText : PySem.HandSPX.refsVE em_BadText = true)
    (sx_BadText : PySem.W.findIn K (.ref ca_BadText) "__setattr__" = some (some (.builtin "object.__setattr__"))) (bx_BadText : PySem.W.subIn K (.ref ca_BadText) (.type "BaseException") = some true) (tx_BadText : PySem.W.typeIn K (.ref ca_BadText) = some (.type "type")) (kx_BadText : PySem.W.keepIn K (.ref ca_BadText) = true) (nx_BadText : PySem.W.findIn K (.ref ca_BadText) "at" = some none)
    {cf_BadText : Addr} (ix_BadText : PySem.W.findIn K (.ref ca_BadText) "__init__" = some (some (.ref cf_BadText))) (ux_BadText : PySem.W.typeIn K (.ref cf_BadText) = some (.type "function"))
    {fo_BadText fa_BadText : Option Addr} {fs_BadText : Array (Option Value)} {fc_BadText fk_BadText fd_BadText fp_BadText fv_BadText ft_BadText : Value} (l2_BadText : K.lookup cf_BadText = some ⟨fc_BadText, fo_BadText, .func (PySem.W.fnOf "__init__" "BadText.__init__" (defArgs si_BadText) (defBody si_BadText) (defScope si_BadText) .none fk_BadText fd_BadText fp_BadText fa_BadText fv_BadText ft_BadText), fs_BadText⟩) (c2_BadText : PySem.W.codeIn K fv_BadText "BadText.__init__" = true) (k2_BadText : PySem.W.keepIn K (.ref cf_BadText) = true)
    (et_BadText : exTop K ca_BadText = true)
    {ca_PeristyleError : Addr} (ga_PeristyleError : PySem.W.nsIn K mainGlobals "PeristyleError" = some (some (.ref ca_PeristyleError)))
    {ca_TooMuch : Addr} (ga_TooMuch : PySem.W.nsIn K mainGlobals "TooMuch" = some (some (.ref ca_TooMuch)))
    (em_BadText_BadText : PySem.W.exmOne K (.ref ca_BadText) (.ref ca_BadText) = some true)
    (ei_BadText_BadForm : PySem.W.kitOne K (.ref ca_BadText) (.ref ca_BadForm) = some false)
    (ei_BadText_PeristyleError : PySem.W.kitOne K (.ref ca_BadText) (.ref ca_PeristyleError) = some true)
    (ei_BadText_TooMuch : PySem.W.kitOne K (.ref ca_BadText) (.ref ca_TooMuch) = some false)
    (ei_BadText_ValueError : PySem.W.kitOne K (.ref ca_BadText) (.type "ValueError") = some true) :
    ∃ fd : FuncData, (∀ (s : Shared) (v : Value), BindsTo s fd ⟨[v], []⟩ [("script", v)]) ∧ ∀ base : Heap, K.In base → base.Ns mainGlobals mg → FnOk l.prog w K mg base (L2.CX l.prog w) 8 fa fd ["script"] (spL K) := by
  have e := hfa.symm.trans (PySem.W.mg_of X G a25)
  cases e
  let T : Tx w K mg := { xa_BadForm := ca_BadForm, xg_BadForm := PySem.W.mg_of X G ga_BadForm, xa_BadText := ca_BadText, xg_BadText := PySem.W.mg_of X G ga_BadText, xf_BadText := cf_BadText, xd_BadText := _, xF_BadText := fun_mk (st := si_BadText) l2_BadText c2_BadText k2_BadText, xp_BadText := ⟨PySem.W.mg_of X G ga_BadText, ⟨⟨_, _, _, _, _, _, _, _, _, _, _, _, _, _, _, lx_BadText, rx_BadText⟩, sx_BadText, bx_BadText, tx_BadText, kx_BadText⟩, nx_BadText, ix_BadText, ux_BadText⟩, xb_BadText := (fun_mk (st := si_BadText) l2_BadText c2_BadText k2_BadText).binds (ps := ["self", "at"]) fun _ _ _ _ _ _ us hl => match us, hl with | [_, _], _ => rfl, xa_PeristyleError := ca_PeristyleError, xg_PeristyleError := PySem.W.mg_of X G ga_PeristyleError, xa_TooMuch := ca_TooMuch, xg_TooMuch := PySem.W.mg_of X G ga_TooMuch, xk_BadText := (catch_cons (PySem.W.mg_of X G ga_BadText) em_BadText_BadText catch_nil), xi_BadForm := (is_cons (PySem.W.mg_of X G ga_BadText) (exTop_c et_BadText).1 ei_BadText_BadForm is_nil), xi_PeristyleError := (is_cons (PySem.W.mg_of X G ga_BadText) (exTop_c et_BadText).1 ei_BadText_PeristyleError is_nil), xi_TooMuch := (is_cons (PySem.W.mg_of X G ga_BadText) (exTop_c et_BadText).1 ei_BadText_TooMuch is_nil), xi_ValueError := (is_cons (PySem.W.mg_of X G ga_BadText) (exTop_c et_BadText).1 ei_BadText_ValueError is_nil), x_ats := at_cons (PySem.W.mg_of X G ga_BadText) (exTop_c et_BadText).2 nx_BadText (fun nm h => absurd h (List.not_mem_nil)), a_is_figure := fa0, d_is_figure := _, F_is_figure := fun_mk (st := s_is_figure) l0 c0 k0, g_is_figure := PySem.W.mg_of X G a0, b_is_figure := (fun_mk (st := s_is_figure) l0 c0 k0).binds (ps := ["sign"]) fun _ _ _ _ _ _ us hl => match us, hl with | [_], _ => rfl, a_is_letter := fa1, d_is_letter := _, F_is_letter := fun_mk (st := s_is_letter) l1 c1 k1, g_is_letter := PySem.W.mg_of X G a1, b_is_letter := (fun_mk (st := s_is_letter) l1 c1 k1).binds (ps := ["sign"]) fun _ _ _ _ _ _ us hl => match us, hl with | [_], _ => rfl, a_is_reserved := fa2, d_is_reserved := _, F_is_reserved := fun_mk (st := s_is_reserved) l2 c2 k2, g_is_reserved := PySem.W.mg_of X G a2, b_is_reserved := (fun_mk (st := s_is_reserved) l2 c2 k2).binds (ps := ["word"]) fun _ _ _ _ _ _ us hl => match us, hl with | [_], _ => rfl, a_is_name := fa3, d_is_name := _, F_is_name := fun_mk (st := s_is_name) l3 c3 k3, g_is_name := PySem.W.mg_of X G a3, b_is_name := (fun_mk (st := s_is_name) l3 c3 k3).binds (ps := ["x"]) fun _ _ _ _ _ _ us hl => match us, hl with | [_], _ => rfl, a_is_text := fa4, d_is_text := _, F_is_text := fun_mk (st := s_is_text) l4 c4 k4, g_is_text := PySem.W.mg_of X G a4, b_is_text := (fun_mk (st := s_is_text) l4 c4 k4).binds (ps := ["x"]) fun _ _ _ _ _ _ us hl => match us, hl with | [_], _ => rfl, a_word_at := fa5, d_word_at := _, F_word_at := fun_mk (st := s_word_at) l5 c5 k5, g_word_at := PySem.W.mg_of X G a5, b_word_at := (fun_mk (st := s_word_at) l5 c5 k5).binds (ps := ["text", "at"]) fun _ _ _ _ _ _ us hl => match us, hl with | [_, _], _ => rfl, a_number_at := fa6, d_number_at := _, F_number_at := fun_mk (st := s_number_at) l6 c6 k6, g_number_at := PySem.W.mg_of X G a6, b_number_at := (fun_mk (st := s_number_at) l6 c6 k6).binds (ps := ["text", "at"]) fun _ _ _ _ _ _ us hl => match us, hl with | [_, _], _ => rfl, a_text_at := fa7, d_text_at := _, F_text_at := fun_mk (st := s_text_at) l7 c7 k7, g_text_at := PySem.W.mg_of X G a7, b_text_at := (fun_mk (st := s_text_at) l7 c7 k7).binds (ps := ["text", "at"]) fun _ _ _ _ _ _ us hl => match us, hl with | [_, _], _ => rfl, a_mark_at := fa8, d_mark_at := _, F_mark_at := fun_mk (st := s_mark_at) l8 c8 k8, g_mark_at := PySem.W.mg_of X G a8, b_mark_at := (fun_mk (st := s_mark_at) l8 c8 k8).binds (ps := ["text", "at"]) fun _ _ _ _ _ _ us hl => match us, hl with | [_, _], _ => rfl, a_thing_at := fa9, d_thing_at := _, F_thing_at := fun_mk (st := s_thing_at) l9 c9 k9, g_thing_at := PySem.W.mg_of X G a9, b_thing_at := (fun_mk (st := s_thing_at) l9 c9 k9).binds (ps := ["text", "at"]) fun _ _ _ _ _ _ us hl => match us, hl with | [_, _], _ => rfl, a_scan := fa10, d_scan := _, F_scan := fun_mk (st := s_scan) l10 c10 k10, g_scan := PySem.W.mg_of X G a10, b_scan := (fun_mk (st := s_scan) l10 c10 k10).binds (ps := ["text"]) fun _ _ _ _ _ _ us hl => match us, hl with | [_], _ => rfl, a_words := fa11, d_words := _, F_words := fun_mk (st := s_words) l11 c11 k11, g_words := PySem.W.mg_of X G a11, b_words := (fun_mk (st := s_words) l11 c11 k11).binds (ps := ["text"]) fun _ _ _ _ _ _ us hl => match us, hl with | [_], _ => rfl, a_law_cell := fa12, d_law_cell := _, F_law_cell := fun_mk (st := s_law_cell) l12 c12 k12, g_law_cell := PySem.W.mg_of X G a12, b_law_cell := (fun_mk (st := s_law_cell) l12 c12 k12).binds (ps := ["script", "k"]) fun _ _ _ _ _ _ us hl => match us, hl with | [_, _], _ => rfl, a_law_mixed := fa13, d_law_mixed := _, F_law_mixed := fun_mk (st := s_law_mixed) l13 c13 k13, g_law_mixed := PySem.W.mg_of X G a13, b_law_mixed := (fun_mk (st := s_law_mixed) l13 c13 k13).binds (ps := ["cell", "k"]) fun _ _ _ _ _ _ us hl => match us, hl with | [_, _], _ => rfl, a_law_draws := fa14, d_law_draws := _, F_law_draws := fun_mk (st := s_law_draws) l14 c14 k14, g_law_draws := PySem.W.mg_of X G a14, b_law_draws := (fun_mk (st := s_law_draws) l14 c14 k14).binds (ps := ["cell", "many"]) fun _ _ _ _ _ _ us hl => match us, hl with | [_, _], _ => rfl, a_law_signs := fa15, d_law_signs := _, F_law_signs := fun_mk (st := s_law_signs) l15 c15 k15, g_law_signs := PySem.W.mg_of X G a15, b_law_signs := (fun_mk (st := s_law_signs) l15 c15 k15).binds (ps := []) fun _ _ _ _ _ _ us hl => match us, hl with | [], _ => rfl, a_law_text := fa16, d_law_text := _, F_law_text := fun_mk (st := s_law_text) l16 c16 k16, g_law_text := PySem.W.mg_of X G a16, b_law_text := (fun_mk (st := s_law_text) l16 c16 k16).binds (ps := ["draws", "size"]) fun _ _ _ _ _ _ us hl => match us, hl with | [_, _], _ => rfl, a_law_reserved := fa17, d_law_reserved := _, F_law_reserved := fun_mk (st := s_law_reserved) l17 c17 k17, g_law_reserved := PySem.W.mg_of X G a17, b_law_reserved := (fun_mk (st := s_law_reserved) l17 c17 k17).binds (ps := []) fun _ _ _ _ _ _ us hl => match us, hl with | [], _ => rfl, a_law_cased := fa18, d_law_cased := _, F_law_cased := fun_mk (st := s_law_cased) l18 c18 k18, g_law_cased := PySem.W.mg_of X G a18, b_law_cased := (fun_mk (st := s_law_cased) l18 c18 k18).binds (ps := ["word", "draw"]) fun _ _ _ _ _ _ us hl => match us, hl with | [_, _], _ => rfl, a_law_word := fa19, d_law_word := _, F_law_word := fun_mk (st := s_law_word) l19 c19 k19, g_law_word := PySem.W.mg_of X G a19, b_law_word := (fun_mk (st := s_law_word) l19 c19 k19).binds (ps := ["draws"]) fun _ _ _ _ _ _ us hl => match us, hl with | [_], _ => rfl, a_law_thing := fa20, d_law_thing := _, F_law_thing := fun_mk (st := s_law_thing) l20 c20 k20, g_law_thing := PySem.W.mg_of X G a20, b_law_thing := (fun_mk (st := s_law_thing) l20 c20 k20).binds (ps := ["draws"]) fun _ _ _ _ _ _ us hl => match us, hl with | [_], _ => rfl, a_law_no_word := fa21, d_law_no_word := _, F_law_no_word := fun_mk (st := s_law_no_word) l21 c21 k21, g_law_no_word := PySem.W.mg_of X G a21, b_law_no_word := (fun_mk (st := s_law_no_word) l21 c21 k21).binds (ps := ["draws"]) fun _ _ _ _ _ _ us hl => match us, hl with | [_], _ => rfl, a_law_odd_signs := fa22, d_law_odd_signs := _, F_law_odd_signs := fun_mk (st := s_law_odd_signs) l22 c22 k22, g_law_odd_signs := PySem.W.mg_of X G a22, b_law_odd_signs := (fun_mk (st := s_law_odd_signs) l22 c22 k22).binds (ps := []) fun _ _ _ _ _ _ us hl => match us, hl with | [], _ => rfl, a_law_mistake := fa23, d_law_mistake := _, F_law_mistake := fun_mk (st := s_law_mistake) l23 c23 k23, g_law_mistake := PySem.W.mg_of X G a23, b_law_mistake := (fun_mk (st := s_law_mistake) l23 c23 k23).binds (ps := ["draws"]) fun _ _ _ _ _ _ us hl => match us, hl with | [_], _ => rfl, a_law_refused := fa24, d_law_refused := _, F_law_refused := fun_mk (st := s_law_refused) l24 c24 k24, g_law_refused := PySem.W.mg_of X G a24, b_law_refused := (fun_mk (st := s_law_refused) l24 c24 k24).binds (ps := ["text", "at"]) fun _ _ _ _ _ _ us hl => match us, hl with | [_, _], _ => rfl, a_law := fa, d_law := _, F_law := fun_mk (st := s_law) l25 c25 k25, g_law := PySem.W.mg_of X G a25, b_law := (fun_mk (st := s_law) l25 c25 k25).binds (ps := ["script"]) fun _ _ _ _ _ _ us hl => match us, hl with | [_], _ => rfl, n_ValueError := PySem.W.mg_none_of X G z0, n_abs := PySem.W.mg_none_of X G z1, n_bool := PySem.W.mg_none_of X G z2, n_int := PySem.W.mg_none_of X G z3, n_isinstance := PySem.W.mg_none_of X G z4, n_len := PySem.W.mg_none_of X G z5, n_max := PySem.W.mg_none_of X G z6, n_ord := PySem.W.mg_none_of X G z7, n_range := PySem.W.mg_none_of X G z8, n_str := PySem.W.mg_none_of X G z9, c_LONGEST := ⟨_, PySem.W.mg_of X G y0⟩, c_LONGEST_NAME := ⟨_, PySem.W.mg_of X G y1⟩, c_MARKS := ⟨_, PySem.W.mg_of X G y2, denB_den x2⟩, c_MOST_FIGURES := ⟨_, PySem.W.mg_of X G y3⟩, c_PERCENT := ⟨_, PySem.W.mg_of X G y4⟩, c_RESERVED := ⟨_, PySem.W.mg_of X G y5, denB_den x5⟩ }
  exact ⟨T.d_law, fun s v => .of_eq rfl, fun base _ _ => law_end (D_law T) pure⟩

end
end DL.Wk
namespace DL.Pure
open PySem PySem.Spec PyProof.Rows L2 DL DL.Wk
@[simp] theorem lit0 : (Str.ofString "0") = tx [48] := by decide +kernel
@[simp] theorem lit1 : (Str.ofString "9") = tx [57] := by decide +kernel
@[simp] theorem lit2 : (Str.ofString "a") = tx [97] := by decide +kernel
@[simp] theorem lit3 : (Str.ofString "z") = tx [122] := by decide +kernel
@[simp] theorem lit4 : (Str.ofString "A") = tx [65] := by decide +kernel
@[simp] theorem lit5 : (Str.ofString "Z") = tx [90] := by decide +kernel
@[simp] theorem lit6 : (Str.ofString "_") = tx [95] := by decide +kernel
@[simp] theorem lit7 : (Str.ofString " ") = tx [32] := by decide +kernel
@[simp] theorem lit8 : (Str.ofString "~") = tx [126] := by decide +kernel
@[simp] theorem lit9 : (Str.ofString "word") = tx [119, 111, 114, 100] := by decide +kernel
@[simp] theorem lit10 : (Str.ofString "number") = tx [110, 117, 109, 98, 101, 114] := by decide +kernel
@[simp] theorem lit11 : (Str.ofString "'") = tx [39] := by decide +kernel
@[simp] theorem lit12 : (Str.ofString "") = tx [] := by decide +kernel
@[simp] theorem lit13 : (Str.ofString "text") = tx [116, 101, 120, 116] := by decide +kernel
@[simp] theorem lit14 : (Str.ofString "mark") = tx [109, 97, 114, 107] := by decide +kernel
@[simp] theorem lit15 : (Str.ofString "\n") = tx [10] := by decide +kernel
@[simp] theorem lit16 : (Str.ofString " !\"#$&'()*+,-./0123456789:;<=>?\u0040ABCDEFGHIJKLMNOPQRSTUVWXYZ[\\]^_`") = tx [32, 33, 34, 35, 36, 38, 39, 40, 41, 42, 43, 44, 45, 46, 47, 48, 49, 50, 51, 52, 53, 54, 55, 56, 57, 58, 59, 60, 61, 62, 63, 64, 65, 66, 67, 68, 69, 70, 71, 72, 73, 74, 75, 76, 77, 78, 79, 80, 81, 82, 83, 84, 85, 86, 87, 88, 89, 90, 91, 92, 93, 94, 95, 96] := by decide +kernel
@[simp] theorem lit17 : (Str.ofString "abcdefghijklmnopqrstuvwxyz{|}~") = tx [97, 98, 99, 100, 101, 102, 103, 104, 105, 106, 107, 108, 109, 110, 111, 112, 113, 114, 115, 116, 117, 118, 119, 120, 121, 122, 123, 124, 125, 126] := by decide +kernel
@[simp] theorem lit18 : (Str.ofString "SELECT DISTINCT FROM WHERE GROUP BY HAVING ORDER LIMIT OFFSET AS JOIN INNER LEFT RIGHT FULL CROSS ON UNION") = tx [83, 69, 76, 69, 67, 84, 32, 68, 73, 83, 84, 73, 78, 67, 84, 32, 70, 82, 79, 77, 32, 87, 72, 69, 82, 69, 32, 71, 82, 79, 85, 80, 32, 66, 89, 32, 72, 65, 86, 73, 78, 71, 32, 79, 82, 68, 69, 82, 32, 76, 73, 77, 73, 84, 32, 79, 70, 70, 83, 69, 84, 32, 65, 83, 32, 74, 79, 73, 78, 32, 73, 78, 78, 69, 82, 32, 76, 69, 70, 84, 32, 82, 73, 71, 72, 84, 32, 70, 85, 76, 76, 32, 67, 82, 79, 83, 83, 32, 79, 78, 32, 85, 78, 73, 79, 78] := by decide +kernel
@[simp] theorem lit19 : (Str.ofString " INTERSECT EXCEPT ALL VALUES WITH AND OR NOT IS NULL TRUE FALSE IN EXISTS BETWEEN LIKE CASE WHEN") = tx [32, 73, 78, 84, 69, 82, 83, 69, 67, 84, 32, 69, 88, 67, 69, 80, 84, 32, 65, 76, 76, 32, 86, 65, 76, 85, 69, 83, 32, 87, 73, 84, 72, 32, 65, 78, 68, 32, 79, 82, 32, 78, 79, 84, 32, 73, 83, 32, 78, 85, 76, 76, 32, 84, 82, 85, 69, 32, 70, 65, 76, 83, 69, 32, 73, 78, 32, 69, 88, 73, 83, 84, 83, 32, 66, 69, 84, 87, 69, 69, 78, 32, 76, 73, 75, 69, 32, 67, 65, 83, 69, 32, 87, 72, 69, 78] := by decide +kernel
@[simp] theorem lit20 : (Str.ofString " THEN ELSE END ASC DESC NULLS FIRST LAST OVER PARTITION ROWS PRECEDING FOLLOWING UNBOUNDED CURRENT ROW") = tx [32, 84, 72, 69, 78, 32, 69, 76, 83, 69, 32, 69, 78, 68, 32, 65, 83, 67, 32, 68, 69, 83, 67, 32, 78, 85, 76, 76, 83, 32, 70, 73, 82, 83, 84, 32, 76, 65, 83, 84, 32, 79, 86, 69, 82, 32, 80, 65, 82, 84, 73, 84, 73, 79, 78, 32, 82, 79, 87, 83, 32, 80, 82, 69, 67, 69, 68, 73, 78, 71, 32, 70, 79, 76, 76, 79, 87, 73, 78, 71, 32, 85, 78, 66, 79, 85, 78, 68, 69, 68, 32, 67, 85, 82, 82, 69, 78, 84, 32, 82, 79, 87] := by decide +kernel
@[simp] theorem lit21 : (Str.ofString "abcdefghijklmnopqrstuvwxyz") = tx [97, 98, 99, 100, 101, 102, 103, 104, 105, 106, 107, 108, 109, 110, 111, 112, 113, 114, 115, 116, 117, 118, 119, 120, 121, 122] := by decide +kernel
@[simp] theorem lit22 : (Str.ofString "_0123456789") = tx [95, 48, 49, 50, 51, 52, 53, 54, 55, 56, 57] := by decide +kernel
@[simp] theorem lit23 : (Str.ofString "b") = tx [98] := by decide +kernel
@[simp] theorem lit24 : (Str.ofString "''") = tx [39, 39] := by decide +kernel
@[simp] theorem lit25 : (Str.ofString "( ) , . * + - / = <> < <= > >= ||") = tx [40, 32, 41, 32, 44, 32, 46, 32, 42, 32, 43, 32, 45, 32, 47, 32, 61, 32, 60, 62, 32, 60, 32, 60, 61, 32, 62, 32, 62, 61, 32, 124, 124] := by decide +kernel
@[simp] theorem lit26 : (Str.ofString "q") = tx [113] := by decide +kernel
@[simp] theorem lit27 : (Str.ofString "ABCQZ") = tx [65, 66, 67, 81, 90] := by decide +kernel
@[simp] theorem lit28 : (Str.ofString "X") = tx [88] := by decide +kernel
@[simp] theorem lit29 : (Str.ofString "Q") = tx [81] := by decide +kernel
@[simp] theorem lit30 : (Str.ofString "-") = tx [45] := by decide +kernel
@[simp] theorem lit31 : (Str.ofString "\t") = tx [9] := by decide +kernel
@[simp] theorem lit32 : (Str.ofString "abc~ _9") = tx [97, 98, 99, 126, 32, 95, 57] := by decide +kernel
@[simp] theorem lit33 : (Str.ofString "0123456789") = tx [48, 49, 50, 51, 52, 53, 54, 55, 56, 57] := by decide +kernel
@[simp] theorem lit34 : (Str.ofString "abcdefghijklmnopqrst") = tx [97, 98, 99, 100, 101, 102, 103, 104, 105, 106, 107, 108, 109, 110, 111, 112, 113, 114, 115, 116] := by decide +kernel
@[simp] theorem lit35 : (Str.ofString "|\t") = tx [124, 9] := by decide +kernel
@[simp] theorem lit36 : (Str.ofString "!\"#$&:;?\u0040[\\]^`{}~") = tx [33, 34, 35, 36, 38, 58, 59, 63, 64, 91, 92, 93, 94, 96, 123, 125, 126] := by decide +kernel
@[simp] theorem lit37 : (Str.ofString "  ") = tx [32, 32] := by decide +kernel
@[simp] theorem lit38 : (Str.ofString " ;") = tx [32, 59] := by decide +kernel
@[simp] theorem lit39 : (Str.ofString " 1 2") = tx [32, 49, 32, 50] := by decide +kernel
@[simp] theorem lit40 : (Str.ofString "\n_") = tx [10, 95] := by decide +kernel
@[simp] theorem lit41 : (Str.ofString " ' ") = tx [32, 39, 32] := by decide +kernel
@[simp] theorem lit42 : (Str.ofString " a") = tx [32, 97] := by decide +kernel
@[simp] theorem lit43 : (Str.ofString "<>") = tx [60, 62] := by decide +kernel
@[simp] theorem lit44 : (Str.ofString "<=") = tx [60, 61] := by decide +kernel
@[simp] theorem lit45 : (Str.ofString ">=") = tx [62, 61] := by decide +kernel
@[simp] theorem lit46 : (Str.ofString "||") = tx [124, 124] := by decide +kernel
@[simp] theorem lit47 : (Str.ofString "(") = tx [40] := by decide +kernel
@[simp] theorem lit48 : (Str.ofString ")") = tx [41] := by decide +kernel
@[simp] theorem lit49 : (Str.ofString ",") = tx [44] := by decide +kernel
@[simp] theorem lit50 : (Str.ofString ".") = tx [46] := by decide +kernel
@[simp] theorem lit51 : (Str.ofString "*") = tx [42] := by decide +kernel
@[simp] theorem lit52 : (Str.ofString "+") = tx [43] := by decide +kernel
@[simp] theorem lit53 : (Str.ofString "/") = tx [47] := by decide +kernel
@[simp] theorem lit54 : (Str.ofString "=") = tx [61] := by decide +kernel
@[simp] theorem lit55 : (Str.ofString "<") = tx [60] := by decide +kernel
@[simp] theorem lit56 : (Str.ofString ">") = tx [62] := by decide +kernel
@[simp] theorem lit57 : (Str.ofString "SELECT") = tx [83, 69, 76, 69, 67, 84] := by decide +kernel
@[simp] theorem lit58 : (Str.ofString "DISTINCT") = tx [68, 73, 83, 84, 73, 78, 67, 84] := by decide +kernel
@[simp] theorem lit59 : (Str.ofString "FROM") = tx [70, 82, 79, 77] := by decide +kernel
@[simp] theorem lit60 : (Str.ofString "WHERE") = tx [87, 72, 69, 82, 69] := by decide +kernel
@[simp] theorem lit61 : (Str.ofString "GROUP") = tx [71, 82, 79, 85, 80] := by decide +kernel
@[simp] theorem lit62 : (Str.ofString "BY") = tx [66, 89] := by decide +kernel
@[simp] theorem lit63 : (Str.ofString "HAVING") = tx [72, 65, 86, 73, 78, 71] := by decide +kernel
@[simp] theorem lit64 : (Str.ofString "ORDER") = tx [79, 82, 68, 69, 82] := by decide +kernel
@[simp] theorem lit65 : (Str.ofString "LIMIT") = tx [76, 73, 77, 73, 84] := by decide +kernel
@[simp] theorem lit66 : (Str.ofString "OFFSET") = tx [79, 70, 70, 83, 69, 84] := by decide +kernel
@[simp] theorem lit67 : (Str.ofString "AS") = tx [65, 83] := by decide +kernel
@[simp] theorem lit68 : (Str.ofString "JOIN") = tx [74, 79, 73, 78] := by decide +kernel
@[simp] theorem lit69 : (Str.ofString "INNER") = tx [73, 78, 78, 69, 82] := by decide +kernel
@[simp] theorem lit70 : (Str.ofString "LEFT") = tx [76, 69, 70, 84] := by decide +kernel
@[simp] theorem lit71 : (Str.ofString "RIGHT") = tx [82, 73, 71, 72, 84] := by decide +kernel
@[simp] theorem lit72 : (Str.ofString "FULL") = tx [70, 85, 76, 76] := by decide +kernel
@[simp] theorem lit73 : (Str.ofString "CROSS") = tx [67, 82, 79, 83, 83] := by decide +kernel
@[simp] theorem lit74 : (Str.ofString "ON") = tx [79, 78] := by decide +kernel
@[simp] theorem lit75 : (Str.ofString "UNION") = tx [85, 78, 73, 79, 78] := by decide +kernel
@[simp] theorem lit76 : (Str.ofString "INTERSECT") = tx [73, 78, 84, 69, 82, 83, 69, 67, 84] := by decide +kernel
@[simp] theorem lit77 : (Str.ofString "EXCEPT") = tx [69, 88, 67, 69, 80, 84] := by decide +kernel
@[simp] theorem lit78 : (Str.ofString "ALL") = tx [65, 76, 76] := by decide +kernel
@[simp] theorem lit79 : (Str.ofString "VALUES") = tx [86, 65, 76, 85, 69, 83] := by decide +kernel
@[simp] theorem lit80 : (Str.ofString "WITH") = tx [87, 73, 84, 72] := by decide +kernel
@[simp] theorem lit81 : (Str.ofString "AND") = tx [65, 78, 68] := by decide +kernel
@[simp] theorem lit82 : (Str.ofString "OR") = tx [79, 82] := by decide +kernel
@[simp] theorem lit83 : (Str.ofString "NOT") = tx [78, 79, 84] := by decide +kernel
@[simp] theorem lit84 : (Str.ofString "IS") = tx [73, 83] := by decide +kernel
@[simp] theorem lit85 : (Str.ofString "NULL") = tx [78, 85, 76, 76] := by decide +kernel
@[simp] theorem lit86 : (Str.ofString "TRUE") = tx [84, 82, 85, 69] := by decide +kernel
@[simp] theorem lit87 : (Str.ofString "FALSE") = tx [70, 65, 76, 83, 69] := by decide +kernel
@[simp] theorem lit88 : (Str.ofString "IN") = tx [73, 78] := by decide +kernel
@[simp] theorem lit89 : (Str.ofString "EXISTS") = tx [69, 88, 73, 83, 84, 83] := by decide +kernel
@[simp] theorem lit90 : (Str.ofString "BETWEEN") = tx [66, 69, 84, 87, 69, 69, 78] := by decide +kernel
@[simp] theorem lit91 : (Str.ofString "LIKE") = tx [76, 73, 75, 69] := by decide +kernel
@[simp] theorem lit92 : (Str.ofString "CASE") = tx [67, 65, 83, 69] := by decide +kernel
@[simp] theorem lit93 : (Str.ofString "WHEN") = tx [87, 72, 69, 78] := by decide +kernel
@[simp] theorem lit94 : (Str.ofString "THEN") = tx [84, 72, 69, 78] := by decide +kernel
@[simp] theorem lit95 : (Str.ofString "ELSE") = tx [69, 76, 83, 69] := by decide +kernel
@[simp] theorem lit96 : (Str.ofString "END") = tx [69, 78, 68] := by decide +kernel
@[simp] theorem lit97 : (Str.ofString "ASC") = tx [65, 83, 67] := by decide +kernel
@[simp] theorem lit98 : (Str.ofString "DESC") = tx [68, 69, 83, 67] := by decide +kernel
@[simp] theorem lit99 : (Str.ofString "NULLS") = tx [78, 85, 76, 76, 83] := by decide +kernel
@[simp] theorem lit100 : (Str.ofString "FIRST") = tx [70, 73, 82, 83, 84] := by decide +kernel
@[simp] theorem lit101 : (Str.ofString "LAST") = tx [76, 65, 83, 84] := by decide +kernel
@[simp] theorem lit102 : (Str.ofString "OVER") = tx [79, 86, 69, 82] := by decide +kernel
@[simp] theorem lit103 : (Str.ofString "PARTITION") = tx [80, 65, 82, 84, 73, 84, 73, 79, 78] := by decide +kernel
@[simp] theorem lit104 : (Str.ofString "ROWS") = tx [82, 79, 87, 83] := by decide +kernel
@[simp] theorem lit105 : (Str.ofString "PRECEDING") = tx [80, 82, 69, 67, 69, 68, 73, 78, 71] := by decide +kernel
@[simp] theorem lit106 : (Str.ofString "FOLLOWING") = tx [70, 79, 76, 76, 79, 87, 73, 78, 71] := by decide +kernel
@[simp] theorem lit107 : (Str.ofString "UNBOUNDED") = tx [85, 78, 66, 79, 85, 78, 68, 69, 68] := by decide +kernel
@[simp] theorem lit108 : (Str.ofString "CURRENT") = tx [67, 85, 82, 82, 69, 78, 84] := by decide +kernel
@[simp] theorem lit109 : (Str.ofString "ROW") = tx [82, 79, 87] := by decide +kernel
theorem cell_is (ns : List Int) (k : Nat) : ∃ c : Int, m_law_cell [.list (ns.map .int), .int k] = .ok (.int c) := by
  unfold m_law_cell g_law_cell
  by_cases h : (k : Int) < ns.length
  · obtain ⟨x, hx, _⟩ := atI_ints (xs := ns) (i := k) (by omega) h
    refine ⟨x, ?_⟩
    simp [hx, h]
  · refine ⟨0, ?_⟩
    simp [h]
def Big (m : Int) : Prop := 0 ≤ m ∧ m < 2147483648
theorem big_mod {a b : Int} (h : 0 < b) (h2 : b ≤ 2147483648) : Big (a.fmod b) := ⟨(fmod_bound h).1, Int.lt_of_lt_of_le (fmod_bound h).2 h2⟩
theorem mixed_is (c k : Int) : ∃ m : Int, m_law_mixed [.int c, .int k] = .ok (.int m) ∧ Big m := by
  unfold m_law_mixed g_law_mixed
  simp
  exact big_mod (b := 2147483629) (by decide) (by decide)
theorem draws_loop (c n : Int) (b : Bool) : ∀ (m : Nat) (lo : Int) (xs : List Int) (r : Int) (s5 : Sl), 0 ≤ r → xs.length + m < 16777216 → (∀ x ∈ xs, Big x) →
    ∃ (ys : List Int) (r' : Int) (s' : Sl), forL (bName 5) b1_law_draws (rangeD lo m) [.val (.int c), .val (.int n), .own (xs.map .int), .val (.int r), .val (.bool b), s5] = .nx [.val (.int c), .val (.int n), .own (ys.map .int), .val (.int r'), .val (.bool b), s'] ∧ ys.length = xs.length + m ∧ ∀ y ∈ ys, Big y
  | 0, lo, xs, r, s5, h0, h1, h2 => ⟨xs, r, s5, rfl, rfl, h2⟩
  | m + 1, lo, xs, r, s5, h0, h1, h2 => by
    rw [rangeD_succ, forL_name]
    have one : ∃ y r', b1_law_draws [.val (.int c), .val (.int n), .own (xs.map .int), .val (.int r), .val (.bool b), .val (.int lo)] = .nx [.val (.int c), .val (.int n), .own ((xs ++ [y]).map .int), .val (.int r'), .val (.bool b), .val (.int lo)] ∧ 0 ≤ r' ∧ Big y := by
      have hl : xs.length < 16777216 := by omega
      unfold b1_law_draws
      obtain ⟨m1, hm, hb⟩ := mixed_is c lo
      by_cases hc : b = true ∧ 0 < r
      · obtain ⟨rfl, hr⟩ := hc
        refine ⟨r.fmod 10000000, r.fdiv 10000000, ?_, ?_, big_mod (by decide) (by decide)⟩
        · simp [hr, hl]
        · rw [Int.fdiv_eq_ediv_of_nonneg _ (by decide)]; exact Int.ediv_nonneg h0 (by decide)
      · refine ⟨m1, r, ?_, h0, hb⟩
        cases b with
        | false => simp [hm, hl]
        | true => simp at hc; simp [hm, hl, Int.not_lt.mpr hc]
    obtain ⟨y, r', e, h3, h4⟩ := one
    obtain ⟨ys, r2, s2, e2, h5, h6⟩ := draws_loop c n b m (lo + 1) (xs ++ [y]) r' (.val (.int lo)) h3 (by rw [List.length_append, List.length_singleton]; omega) (fun x hx => by
      rcases List.mem_append.mp hx with hx | hx
      · exact h2 x hx
      · rw [List.mem_singleton.mp hx]; exact h4)
    refine ⟨ys, r2, s2, ?_, by rw [h5, List.length_append, List.length_singleton]; omega, h6⟩
    simp only [List.set_cons_succ, List.set_cons_zero, e, turn_nx]
    exact e2
theorem draws_is (c : Int) (n : Nat) (h : n < 16777216) : ∃ xs : List Int, m_law_draws [.int c, .int n] = .ok (.list (xs.map .int)) ∧ xs.length = n ∧ ∀ x ∈ xs, Big x := by
  have hr : rng1 [.int (n : Int)] = some (rangeD 0 n) := rng1_nat n (Nat.lt_trans h (by decide))
  unfold m_law_draws g_law_draws
  simp [hr]
  obtain ⟨ys, r', s', e, h1, h2⟩ := draws_loop c n (decide (1000000000000000000 ≤ (if c < 0 then -c else c))) n 0 [] (if c < 0 then -c else c) .un (by split <;> omega) (by simpa using h) (fun x hx => by cases hx)
  rw [List.map_nil] at e
  refine ⟨ys, ?_, by simpa using h1, h2⟩
  rw [e]
  simp


theorem at_int (xs : List Int) (k : Nat) (h : k < xs.length) : ∃ x, (xs.map PyData.int)[k]? = some (.int x) ∧ x ∈ xs := ⟨xs[k], by simp [h], List.getElem_mem h⟩
/-! texts -/
def plainC (c : Nat) : Bool := decide (32 ≤ c) && decide (c ≤ 126) && !decide (c = 37)
def Signs : List Nat := [32, 33, 34, 35, 36, 38, 39, 40, 41, 42, 43, 44, 45, 46, 47, 48, 49, 50, 51, 52, 53, 54, 55, 56, 57, 58, 59, 60, 61, 62, 63, 64, 65, 66, 67, 68, 69, 70, 71, 72, 73, 74, 75, 76, 77, 78, 79, 80, 81, 82, 83, 84, 85, 86, 87, 88, 89, 90, 91, 92, 93, 94, 95, 96, 97, 98, 99, 100, 101, 102, 103, 104, 105, 106, 107, 108, 109, 110, 111, 112, 113, 114, 115, 116, 117, 118, 119, 120, 121, 122, 123, 124, 125, 126]
theorem signs_plain : ∀ c ∈ Signs, plainC c = true := by decide +kernel
theorem signs_len : Signs.length = 94 := by decide +kernel
theorem signs_is : m_law_signs [] = .ok (.str (tx Signs)) := by
  unfold m_law_signs g_law_signs Signs
  simp
theorem text_is (xs : List Int) (n : Nat) (hx : xs ≠ []) (hxl : xs.length < 16777216) (hn : n ≤ 16777216) : ∃ l : List Nat, m_law_text [.list (xs.map .int), .int n] = .ok (.str (tx l)) ∧ l.length = n ∧ ∀ c ∈ l, plainC c = true := by
  have hl : 0 < xs.length := List.length_pos_iff.mpr hx
  have one : ∀ d ∈ rangeD 0 n, ∃ y, e1_law_text ([.val (.list (xs.map .int)), .val (.int n), .val (.str (tx Signs)), .val (.int xs.length), .un].set 4 (.val d)) = .ok y ∧ ∃ c, y = .str (tx [c]) ∧ plainC c = true := by
    intro d hd
    obtain ⟨j, hj, rfl⟩ := rangeD_mem0 hd
    have hb := fmod_bound (a := (j : Int)) (b := xs.length) (by omega)
    obtain ⟨x, e, _⟩ := atI_ints (xs := xs) (i := (j : Int).fmod xs.length) hb.1 hb.2
    have hb2 := fmod_bound (a := x + (j : Int).fdiv xs.length * 31) (b := 94) (by decide)
    obtain ⟨c, e2, hc⟩ := atI_mem (xs := Signs) hb2.1 (by rw [signs_len]; exact hb2.2)
    refine ⟨_, ?_, c, rfl, signs_plain c hc⟩
    have hd : divOk (xs.length : Int) = true := divOk_s (by omega) (by omega)
    unfold e1_law_text
    simp [e, e2, fdivD_int, hd, hx, signs_len]
  obtain ⟨ys, e, h1, h2⟩ := compL_all _ _ 4 (rangeD 0 n) one
  obtain ⟨cs, rfl, h3⟩ := list_choose h2
  refine ⟨cs, ?_, by rw [rangeD_length] at h1; simpa using h1, h3⟩
  have hr : rng1 [.int (n : Int)] = some (rangeD 0 n) := rng1_nat n (Nat.lt_of_le_of_lt hn (by decide))
  have hc : cs.length ≤ 16777216 := by rw [rangeD_length] at h1; rw [List.length_map] at h1; omega
  unfold m_law_text g_law_text
  simp [hr, rangeD_length, hn, signs_is, dM_str, e, joinD_one cs hc]
/-! is_text -/
theorem is_text_loop (d : PyData) : ∀ (l : List Nat) (s : Sl), (l.all plainC = true → ∃ s', forL (bName 1) b1_is_text (l.map fun c => .str (tx [c])) [.val d, s] = .nx [.val d, s']) ∧ (l.all plainC = false → forL (bName 1) b1_is_text (l.map fun c => .str (tx [c])) [.val d, s] = .rt (.bool false))
  | [], s => ⟨fun _ => ⟨s, rfl⟩, fun h => by cases h⟩
  | c :: l, s => by
    have ih := is_text_loop d l (.val (.str (tx [c])))
    have one : b1_is_text [.val d, .val (.str (tx [c]))] = if plainC c = true then .nx [.val d, .val (.str (tx [c]))] else .rt (.bool false) := by
      unfold b1_is_text plainC
      by_cases h1 : 32 ≤ c
      · by_cases h2 : c ≤ 126
        · by_cases h3 : c = 37
          · subst h3; simp
          · have h4 : ¬ ((c : Int) = 37) := by omega
            have h5 : ¬ 126 < c := by omega
            simp [h1, h2, h3, h4, h5]
        · have h5 : 126 < c := by omega
          simp [h1, h2, h5]
      · simp [h1]
    rw [List.map_cons, forL_name]
    simp only [List.set_cons_succ, List.set_cons_zero, one, List.all_cons]
    cases hc : plainC c with
    | true => simpa using ih
    | false => simp
theorem is_text_is (l : List Nat) (h : l.length ≤ 16777216) : m_is_text [.str (tx l)] = .ok (.bool (decide (l.length ≤ 200) && l.all plainC)) := by
  unfold m_is_text g_is_text
  obtain ⟨h1, h2⟩ := is_text_loop (.str (tx l)) l .un
  by_cases hl : l.length ≤ 200
  · have hi : ¬ ((200 : Int) < l.length) := by omega
    cases hc : l.all plainC with
    | true =>
      obtain ⟨s', e⟩ := h1 hc
      simp [h, hl, e, hi]
    | false =>
      have e := h2 hc
      simp [h, hl, e, hi]
  · have hi : (200 : Int) < l.length := by omega
    simp [h, hl, hi]

/-! items of a range -/
theorem range_get {lo : Int} {n k : Nat} {d : PyData} (h : (rangeD lo n)[k]? = some d) : k < n ∧ d = .int (lo + k) := by
  unfold rangeD at h
  rw [List.getElem?_map] at h
  cases e : (List.range n)[k]? with
  | none => rw [e] at h; cases h
  | some x =>
    rw [e] at h
    cases h
    have hk : k < n := by
      have := (List.getElem?_eq_some_iff.mp e).1
      simpa using this
    rw [List.getElem?_range hk] at e
    cases e
    exact ⟨hk, rfl⟩
/-! figures of a number -/
def dg (m : Nat) : List Nat := (Nat.toDigits 10 m).map Char.toNat
theorem dg_small {m : Nat} (h : m < 10) : dg m = [48 + m] := by
  unfold dg
  rw [Nat.toDigits_of_lt_base h]
  have : ∀ d : Nat, d < 10 → (Nat.digitChar d).toNat = 48 + d := by decide
  simp [this m h]
theorem dg_step {m : Nat} (h : 10 ≤ m) : dg m = dg (m / 10) ++ [48 + m % 10] := by
  have hm : m % 10 < 10 := Nat.mod_lt m (by decide)
  have t : Nat.toDigits 10 (m / 10) ++ Nat.toDigits 10 (m % 10) = Nat.toDigits 10 (10 * (m / 10) + m % 10) := Nat.toDigits_append_toDigits (by decide) (by omega) hm
  rw [Nat.div_add_mod] at t
  have e := dg_small hm
  unfold dg at e ⊢
  rw [← t, List.map_append, e]
theorem words_tx (i : Int) : Str.ofString (toString i) = tx (if i < 0 then 45 :: dg i.natAbs else dg i.natAbs) := by
  rw [Str.ofString_eq_toList]
  show tx _ = tx _
  rw [tx_inj]
  cases i with
  | ofNat m =>
    rw [if_neg (by simp)]
    show (Nat.repr m).toList.map Char.toNat = _
    rw [Nat.toList_repr]
    rfl
  | negSucc m =>
    rw [if_pos (by omega)]
    show ("-" ++ Nat.repr (m + 1)).toList.map Char.toNat = _
    rw [String.toList_append, List.map_append, Nat.toList_repr]
    rfl
def digC (c : Nat) : Bool := decide (48 ≤ c) && decide (c ≤ 57)
theorem int_figs {l : List Nat} (h : l.all digC = true) (h1 : 1 ≤ l.length) (h2 : l.length ≤ 18) : intXD [.str (tx l)] = some (.int ((NumText.digitsVal l : Nat) : Int)) := by
  have := intText_digits (x := tx l) (by
    rw [tx_cps]
    intro c hc
    have := List.all_eq_true.mp h c hc
    unfold digC at this
    simp at this
    exact this) (by rw [tx_cps]; intro e; rw [e] at h1; cases h1) (by rw [tx_len]; omega)
  rw [tx_cps] at this
  rw [intXD_str, tx_len, if_pos (by omega), this]
  rfl
theorem dg_digs : ∀ m : Nat, (dg m).all digC = true ∧ 1 ≤ (dg m).length := fun m => by
  induction m using Nat.strongRecOn with
  | _ m ih =>
    by_cases h : m < 10
    · rw [dg_small h]
      have : digC (48 + m) = true := by unfold digC; rw [decide_eq_true (by omega), decide_eq_true (by omega)]; rfl
      simp [this]
    · rw [dg_step (by omega)]
      obtain ⟨h1, h2⟩ := ih (m / 10) (by omega)
      have : digC (48 + m % 10) = true := by unfold digC; rw [decide_eq_true (by omega), decide_eq_true (by omega)]; rfl
      rw [List.all_append, h1, List.length_append]
      simp [this]
/-! signs -/
theorem fig_sign (c : Nat) : m_is_figure [.str (tx [c])] = .ok (.bool (digC c)) := by
  unfold m_is_figure g_is_figure digC
  by_cases h1 : 48 ≤ c
  · by_cases h2 : c ≤ 57
    · have h3 : ¬ 57 < c := by omega
      simp [h1, h2, h3]
    · have h3 : 57 < c := by omega
      simp [h1, h2, h3]
  · simp [h1]
def smallC (c : Nat) : Bool := decide (97 ≤ c) && decide (c ≤ 122)
def capC (c : Nat) : Bool := decide (65 ≤ c) && decide (c ≤ 90)
def letC (c : Nat) : Bool := smallC c || capC c
def wordC (c : Nat) : Bool := letC c || (digC c || decide (c = 95))
def nameC (c : Nat) : Bool := smallC c || (digC c || decide (c = 95))
theorem let_sign (c : Nat) : m_is_letter [.str (tx [c])] = .ok (.bool (letC c)) := by
  unfold m_is_letter g_is_letter letC smallC capC
  by_cases h1 : 97 ≤ c
  · by_cases h2 : c ≤ 122
    · have h3 : ¬ 122 < c := by omega
      simp [h1, h2, h3]
    · have h3 : 122 < c := by omega
      have h4 : 65 ≤ c := by omega
      have h5 : 90 < c := by omega
      simp [h1, h2, h3, h4, h5]
  · by_cases h2 : 65 ≤ c
    · by_cases h3 : c ≤ 90
      · have h4 : ¬ 90 < c := by omega
        simp [h1, h2, h3, h4]
      · have h4 : 90 < c := by omega
        simp [h1, h2, h3, h4]
    · simp [h1, h2]
/-! a while by the number of its turns -/
theorem while_run {t : Sls → Res Bool} {b : Sls → Out} {st : Nat → Sls} (m : Nat) (h1 : ∀ k, k < m → t (st k) = .ok true ∧ b (st k) = .nx (st (k + 1))) (h2 : t (st m) = .ok false) : ∀ (j k : Nat), k + j = m → ∀ n, j < n → whileN t b n (st k) = .nx (st m)
  | 0, k, e, n, hn => by
    obtain ⟨n, rfl⟩ := Nat.exists_eq_succ_of_ne_zero (show n ≠ 0 by omega)
    have : k = m := by omega
    subst this
    show (match t (st k) with
      | .bad => Out.bad
      | .exc x => .exc x (st k)
      | .ok false => .nx (st k)
      | .ok true => _) = _
    rw [h2]
  | j + 1, k, e, n, hn => by
    obtain ⟨n, rfl⟩ := Nat.exists_eq_succ_of_ne_zero (show n ≠ 0 by omega)
    obtain ⟨q1, q2⟩ := h1 k (by omega)
    show (match t (st k) with
      | .bad => Out.bad
      | .exc x => .exc x (st k)
      | .ok false => .nx (st k)
      | .ok true => match b (st k) with
        | .nx ρ2 => whileN t b n ρ2
        | .ct ρ2 => whileN t b n ρ2
        | .bk ρ2 => .nx ρ2
        | .rt d => .rt d
        | .exc x ρ2 => .exc x ρ2
        | .bad => .bad) = _
    rw [q1, q2]
    exact while_run m h1 h2 j (k + 1) (by omega) n (by omega)
/-- one turn -/
theorem while_step {t : Sls → Res Bool} {b : Sls → Out} {ρ : Sls} {n : Nat} (h : t ρ = .ok true) : whileN t b (n + 1) ρ = (b ρ).turn (whileN t b n) := by
  show (match t ρ with
      | .bad => Out.bad
      | .exc x => .exc x ρ
      | .ok false => .nx ρ
      | .ok true => _) = _
  rw [h]
  cases b ρ <;> rfl
theorem while_stop {t : Sls → Res Bool} {b : Sls → Out} {ρ : Sls} {n : Nat} (h : t ρ = .ok false) : whileN t b (n + 1) ρ = .nx ρ := by
  show (match t ρ with
      | .bad => Out.bad
      | .exc x => .exc x ρ
      | .ok false => .nx ρ
      | .ok true => _) = _
  rw [h]
/-! places in a text of three parts -/
theorem at_in {p s r : List Nat} {k : Nat} (h : k < s.length) : ∃ c, atI (p ++ s ++ r) ((p.length : Int) + (k : Int)) = some c ∧ s[k]? = some c ∧ c ∈ s := by
  refine ⟨s[k], ?_, List.getElem?_eq_getElem h, List.getElem_mem h⟩
  rw [show (p.length : Int) + (k : Int) = ((p.length + k : Nat) : Int) by omega, atI_nat, List.append_assoc, List.getElem?_append_right (by omega), List.getElem?_append_left (by omega)]
  rw [show p.length + k - p.length = k by omega, List.getElem?_eq_getElem h]
theorem at_end {p s : List Nat} {c : Nat} {r : List Nat} : atI (p ++ s ++ (c :: r)) ((p.length : Int) + (s.length : Int)) = some c := by
  rw [show (p.length : Int) + (s.length : Int) = (((p ++ s).length : Nat) : Int) by rw [List.length_append]; omega, atI_nat, List.getElem?_append_right (Nat.le_refl _)]
  simp
theorem at_len {p : List Nat} {c : Nat} {r : List Nat} : atI (p ++ c :: r) (p.length : Int) = some c := by
  rw [atI_nat, List.getElem?_append_right (Nat.le_refl _)]
  simp
theorem cut_mid (p s r : List Nat) : cutL (p ++ s ++ r) (some (p.length : Int)) (some ((p.length : Int) + (s.length : Int))) = s := by
  rw [show (p.length : Int) + (s.length : Int) = ((p.length + s.length : Nat) : Int) by omega, cutL_nat _ _ _ (by omega), List.append_assoc, List.drop_left, show p.length + s.length - p.length = s.length by omega, List.take_left]
/-- what may not stand behind -/
def stopB (f : Nat → Bool) (r : List Nat) : Prop := ∀ c, r.head? = some c → f c = false
def tri (so : List Nat) (wd : PyData) (at_ : Nat) (e : Int) (m : Int) : PyData := .tuple [.tuple [.str (tx so), wd, .int at_], .int e, .int m]
/-! numbers -/
theorem number_loop {p s r : List Nat} (hs : ∀ c ∈ s, digC c = true) (hr : stopB digC r) (hz : (p ++ s ++ r).length ≤ 16777216) {n : Nat} (hn : s.length < n) :
    whileN t2_number_at b1_number_at n [.val (.str (tx (p ++ s ++ r))), .val (.int p.length), .val (.int p.length)] = .nx [.val (.str (tx (p ++ s ++ r))), .val (.int p.length), .val (.int ((p.length : Int) + (s.length : Int)))] := by
  have h := while_run (t := t2_number_at) (b := b1_number_at) (st := fun k => [.val (.str (tx (p ++ s ++ r))), .val (.int p.length), .val (.int ((p.length : Int) + (k : Int)))]) s.length (fun k hk => ?_) ?_ s.length 0 (by omega) n hn
  · simpa using h
  · obtain ⟨c, h1, h2, h3⟩ := at_in (p := p) (r := r) hk
    have hd := hs c h3
    have hlt : (p.length : Int) + (k : Int) < ((p ++ s ++ r).length : Nat) := by rw [List.length_append, List.length_append]; omega
    constructor
    · unfold t2_number_at
      generalize p ++ s ++ r = T at *
      simp [hz, h1, hlt, fig_sign, hd]
    · unfold b1_number_at
      simp
      omega
  · unfold t2_number_at
    cases r with
    | nil =>
      rw [List.append_nil] at hz ⊢
      have hlt : ¬ (p.length : Int) + (s.length : Int) < ((p ++ s).length : Nat) := by rw [List.length_append]; omega
      generalize hT : p ++ s = T at *
      simp [hz, hlt]
    | cons c r =>
      have h1 := at_end (p := p) (s := s) (c := c) (r := r)
      have hd := hr c rfl
      have hlt : (p.length : Int) + (s.length : Int) < ((p ++ s ++ c :: r).length : Nat) := by rw [List.length_append, List.length_append, List.length_cons]; omega
      generalize p ++ s ++ c :: r = T at *
      simp [hz, h1, hlt, fig_sign, hd]
theorem number_is {p s r : List Nat} (hs : ∀ c ∈ s, digC c = true) (h1 : 1 ≤ s.length) (h18 : s.length ≤ 18) (hr : stopB digC r) (hz : (p ++ s ++ r).length ≤ 16777216) :
    m_number_at [.str (tx (p ++ s ++ r)), .int p.length] = .ok (tri [110, 117, 109, 98, 101, 114] (.int ((NumText.digitsVal s : Nat) : Int)) p.length ((p.length : Int) + (s.length : Int)) (-1)) := by
  have hl := number_loop hs hr hz (n := 1000000) (by omega)
  have hc := cut_mid p s r
  have hi := int_figs (List.all_eq_true.mpr hs) h1 h18
  unfold m_number_at g_number_at tri
  generalize p ++ s ++ r = T at *
  have hlt : ¬ (18 : Int) < (p.length : Int) + (s.length : Int) - p.length := by omega
  have hi2 : (if s.length ≤ 640 then Option.map PyData.int (PySem.intText? (tx s)) else none) = some (.int ((NumText.digitsVal s : Nat) : Int)) := by
    rw [intXD_str, tx_len] at hi; exact hi
  have hlt2 : ¬ (18 : Int) < (s.length : Int) := by omega
  simp [w_number_at_53, hl, hlt, hlt2, hc, hz, hi2]
/-! words -/
def RES : List PyData := match k_RESERVED with
  | .tuple ds => ds
  | _ => []
def resB (s : List Nat) : Bool := hasD (.str (tx (s.map upC))) RES
theorem res_is {s : List Nat} (h : ∀ c ∈ s, c < 127) (hl : s.length ≤ 1000) : m_is_reserved [.str (tx s)] = .ok (.bool (resB s)) := by
  have hk : k_RESERVED = .tuple RES := rfl
  have hf : RES.all flatD = true := by decide +kernel
  have hz : s.length ≤ 5592405 := by omega
  unfold m_is_reserved g_is_reserved resB
  simp [dM_is, upper_tx h, hk, hf, hz]
theorem name_loop (d : PyData) : ∀ (l : List Nat) (h : ∀ c ∈ l, nameC c = true) (s : Sl), ∃ s', forL (bName 1) b1_is_name (l.map fun c => .str (tx [c])) [.val d, s] = .nx [.val d, s']
  | [], _, s => ⟨s, rfl⟩
  | c :: l, h, s => by
    obtain ⟨s', ih⟩ := name_loop d l (fun x hx => h x (List.mem_cons_of_mem _ hx)) (.val (.str (tx [c])))
    have hc := h c List.mem_cons_self
    have one : b1_is_name [.val d, .val (.str (tx [c]))] = .nx [.val d, .val (.str (tx [c]))] := by
      have hf := fig_sign c
      unfold nameC smallC at hc
      unfold b1_is_name
      by_cases h1 : 97 ≤ c
      · by_cases h2 : c ≤ 122
        · have h3 : ¬ 122 < c := by omega
          simp [h1, h2, h3]
        · have h3 : 122 < c := by omega
          have h4 : digC c = true ∨ c = 95 := by simpa [h1, h2] using hc
          rcases h4 with h4 | h4
          · simp [h1, h3, hf, h4]
          · omega
      · have h4 : digC c = true ∨ c = 95 := by simpa [h1] using hc
        rcases h4 with h4 | h4
        · simp [h1, hf, h4]
        · subst h4; simp [hf]
    rw [List.map_cons, forL_name]
    simp only [List.set_cons_succ, List.set_cons_zero, one, turn_nx]
    exact ⟨s', ih⟩
theorem name_is {c : Nat} {s : List Nat} (h1 : smallC c = true) (h : ∀ x ∈ c :: s, nameC x = true) (hl : (c :: s).length ≤ 20) : m_is_name [.str (tx (c :: s))] = .ok (.bool (!resB (c :: s))) := by
  have h127 : ∀ x ∈ c :: s, x < 127 := fun x hx => by
    have := h x hx
    unfold nameC smallC digC at this
    simp at this
    omega
  have hr := res_is h127 (by omega)
  obtain ⟨s', e⟩ := name_loop (.str (tx (c :: s))) (c :: s) h .un
  have hz : (c :: s).length ≤ 16777216 := by omega
  have h20 : ((c :: s).length : Int) ≤ 20 := by omega
  have h1i : (1 : Int) ≤ ((c :: s).length : Int) := by rw [List.length_cons]; omega
  have hat : atI (c :: s) 0 = some c := by rw [atI_zero]; rfl
  unfold smallC at h1
  simp at h1
  have hc3 : ¬ 122 < c := by omega
  unfold m_is_name g_is_name
  generalize hT : c :: s = T at *
  simp [hz, h20, h1i, hat, h1, hc3, e, hr]
structure WordOk (s : List Nat) : Prop where
  ne : s ≠ []
  le : s.length ≤ 20
  all : ∀ c ∈ s, wordC c = true
  ok : resB s = true ∨ ∃ c r, s = c :: r ∧ smallC c = true ∧ ∀ x ∈ s, nameC x = true
theorem word127 {s : List Nat} (h : ∀ c ∈ s, wordC c = true) : ∀ c ∈ s, c < 127 := fun c hc => by
  have := h c hc
  unfold wordC letC smallC capC digC at this
  simp at this
  omega
theorem word_loop {p s r : List Nat} (hs : ∀ c ∈ s, wordC c = true) (hr : stopB wordC r) (hz : (p ++ s ++ r).length ≤ 16777216) {n : Nat} (hn : s.length < n) (s3 : Sl) :
    whileN t2_word_at b1_word_at n [.val (.str (tx (p ++ s ++ r))), .val (.int p.length), .val (.int p.length), s3] = .nx [.val (.str (tx (p ++ s ++ r))), .val (.int p.length), .val (.int ((p.length : Int) + (s.length : Int))), s3] := by
  have h := while_run (t := t2_word_at) (b := b1_word_at) (st := fun k => [.val (.str (tx (p ++ s ++ r))), .val (.int p.length), .val (.int ((p.length : Int) + (k : Int))), s3]) s.length (fun k hk => ?_) ?_ s.length 0 (by omega) n hn
  · simpa using h
  · obtain ⟨c, h1, h2, h3⟩ := at_in (p := p) (r := r) hk
    have hd := hs c h3
    have hlt : (p.length : Int) + (k : Int) < ((p ++ s ++ r).length : Nat) := by rw [List.length_append, List.length_append]; omega
    constructor
    · unfold wordC at hd
      unfold t2_word_at
      generalize p ++ s ++ r = T at *
      cases q1 : letC c with
      | true => simp [hz, h1, hlt, let_sign, q1]
      | false =>
        cases q2 : digC c with
        | true => simp [hz, h1, hlt, fig_sign, let_sign, q1, q2]
        | false =>
          have q3 : c = 95 := by simpa [q1, q2] using hd
          simp [hz, h1, hlt, fig_sign, let_sign, q1, q2, q3]
    · unfold b1_word_at
      simp
      omega
  · unfold t2_word_at
    cases r with
    | nil =>
      rw [List.append_nil] at hz ⊢
      have hlt : ¬ (p.length : Int) + (s.length : Int) < ((p ++ s).length : Nat) := by rw [List.length_append]; omega
      generalize hT : p ++ s = T at *
      simp [hz, hlt]
    | cons c r =>
      have h1 := at_end (p := p) (s := s) (c := c) (r := r)
      have hd := hr c rfl
      have hlt : (p.length : Int) + (s.length : Int) < ((p ++ s ++ c :: r).length : Nat) := by rw [List.length_append, List.length_append, List.length_cons]; omega
      unfold wordC at hd
      simp at hd
      obtain ⟨q1, q2, q3⟩ := hd
      generalize p ++ s ++ c :: r = T at *
      simp [hz, h1, hlt, fig_sign, let_sign, q1, q2, q3]
theorem word_is {p s r : List Nat} (hw : WordOk s) (hr : stopB wordC r) (hz : (p ++ s ++ r).length ≤ 16777216) :
    m_word_at [.str (tx (p ++ s ++ r)), .int p.length] = .ok (tri [119, 111, 114, 100] (.str (tx s)) p.length ((p.length : Int) + (s.length : Int)) (-1)) := by
  have hle := hw.le
  have hl := word_loop hw.all hr hz (n := 1000000) (by omega) .un
  have hc := cut_mid p s r
  have hrs := res_is (word127 hw.all) (by omega)
  unfold m_word_at g_word_at tri
  generalize p ++ s ++ r = T at *
  have hlt : ¬ (20 : Int) < (s.length : Int) := by omega
  have hzs : s.length ≤ 16777216 := by omega
  rcases hw.ok with q | ⟨c, r', e, q1, q2⟩
  · simp [w_word_at_45, hl, hlt, hc, hz, hzs, hrs, q]
  · cases q : resB s with
    | true => simp [w_word_at_45, hl, hlt, hc, hz, hzs, hrs, q]
    | false =>
      have hn : m_is_name [.str (tx s)] = .ok (.bool (!resB s)) := by
        subst e
        exact name_is q1 q2 hle
      simp [w_word_at_45, hl, hlt, hc, hz, hzs, hrs, q, hn]
/-! texts -/
def dbl (u : List Nat) : List Nat := u.flatMap fun c => if c = 39 then [39, 39] else [c]
theorem dbl_cons (c : Nat) (u : List Nat) : dbl (c :: u) = (if c = 39 then [39, 39] else [c]) ++ dbl u := by unfold dbl; rw [List.flatMap_cons]
theorem dbl_len (u : List Nat) : (dbl u).length ≤ 2 * u.length := by
  induction u with
  | nil => exact Nat.le_refl _
  | cons c u ih => rw [dbl_cons, List.length_append, List.length_cons]; split <;> simp <;> omega
theorem cut_next (p : List Nat) (c : Nat) (r : List Nat) : cutL (p ++ c :: r) (some ((p.length : Int) + 1)) (some ((p.length : Int) + 2)) = r.take 1 := by
  rw [show (p.length : Int) + 1 = ((p.length + 1 : Nat) : Int) by omega, show (p.length : Int) + 2 = ((p.length + 2 : Nat) : Int) by omega, cutL_nat _ _ _ (by omega)]
  rw [show p.length + 2 - (p.length + 1) = 1 by omega, show p ++ c :: r = (p ++ [c]) ++ r by simp, show p.length + 1 = (p ++ [c]).length by simp, List.drop_left]
theorem take_stop {r : List Nat} (h : ∀ c, r.head? = some c → c ≠ 39) : ¬ r.take 1 = [39] := by
  cases r with
  | nil => simp
  | cons c r => have := h c rfl; simpa using this
theorem sign_text {c : Nat} (h : plainC c = true) : m_is_text [.str (tx [c])] = .ok (.bool true) := by
  rw [is_text_is [c] (by simp)]
  simp [h]
theorem text_loop (q : List Nat) (a : Nat) (r : List Nat) (hr : ∀ c, r.head? = some c → c ≠ 39) : ∀ (u p done : List Nat) (n : Nat) (s4 : Sl), (∀ c ∈ u, plainC c = true) → done.length + u.length ≤ 200 → (p ++ (dbl u ++ 39 :: r)).length ≤ 16777216 → u.length < n →
    whileN t2_text_at b1_text_at n [.val (.str (tx (p ++ (dbl u ++ 39 :: r)))), .val (.int a), .own (done.map fun c => .str (tx [c])), .val (.int p.length), s4] =
      .rt (tri [116, 101, 120, 116] (.str (tx (done ++ u))) a (((p ++ (dbl u)).length : Int) + 1) (-1))
  | [], p, done, n, s4, hu, hd, hz, hn => by
    obtain ⟨n, rfl⟩ := Nat.exists_eq_succ_of_ne_zero (show n ≠ 0 by omega)
    have e0 : p ++ (dbl [] ++ 39 :: r) = p ++ 39 :: r := rfl
    rw [e0] at hz ⊢
    have h1 := at_len (p := p) (c := 39) (r := r)
    have hlt : (p.length : Int) < ((p ++ 39 :: r).length : Nat) := by rw [List.length_append, List.length_cons]; omega
    have hc := cut_next p 39 r
    have ht := take_stop hr
    have hj := joinD_one done (by simp at hd; omega)
    have hdl : p ++ dbl [] = p := by simp [dbl]
    rw [hdl, List.append_nil]
    generalize p ++ 39 :: r = T at *
    rw [while_step (by unfold t2_text_at; simp [hz, hlt])]
    unfold b1_text_at tri
    simp [hz, h1, hc, ht, dM_is, hj]
  | c :: u, p, done, n, s4, hu, hd, hz, hn => by
    obtain ⟨n, rfl⟩ := Nat.exists_eq_succ_of_ne_zero (show n ≠ 0 by omega)
    have hpc := hu c List.mem_cons_self
    have hu' : ∀ x ∈ u, plainC x = true := fun x hx => hu x (List.mem_cons_of_mem _ hx)
    rw [List.length_cons] at hd hn
    have hst : done.length < 16777216 := by omega
    have hle : ¬ (200 : Int) < (done.length : Int) + 1 := by omega
    have e2 : (done ++ [c]).map (fun c => PyData.str (tx [c])) = done.map (fun c => PyData.str (tx [c])) ++ [.str (tx [c])] := by simp
    by_cases h39 : c = 39
    · subst h39
      have e0 : p ++ (dbl (39 :: u) ++ 39 :: r) = (p ++ [39, 39]) ++ (dbl u ++ 39 :: r) := by rw [dbl_cons]; simp
      have ih := text_loop q a r hr u (p ++ [39, 39]) (done ++ [39]) n (.val (.str (tx [39]))) hu' (by rw [List.length_append, List.length_singleton]; omega) (by rw [← e0]; exact hz) (by omega)
      have e1 : p ++ (dbl (39 :: u) ++ 39 :: r) = p ++ 39 :: (39 :: (dbl u ++ 39 :: r)) := by rw [dbl_cons]; simp
      have h1 := at_len (p := p) (c := 39) (r := 39 :: (dbl u ++ 39 :: r))
      have hc := cut_next p 39 (39 :: (dbl u ++ 39 :: r))
      have hlt : (p.length : Int) < ((p ++ 39 :: (39 :: (dbl u ++ 39 :: r))).length : Nat) := by rw [List.length_append, List.length_cons]; omega
      rw [← e1] at h1 hc hlt
      have e3 : p ++ [39, 39] ++ dbl u = p ++ dbl (39 :: u) := by rw [dbl_cons]; simp
      have e4 : done ++ [39] ++ u = done ++ 39 :: u := by simp
      rw [← e0, e2, e3, e4] at ih
      generalize p ++ (dbl (39 :: u) ++ 39 :: r) = T at *
      rw [while_step (by unfold t2_text_at; simp [hz, hlt])]
      have one : b1_text_at [.val (.str (tx T)), .val (.int a), .own (done.map fun c => .str (tx [c])), .val (.int p.length), s4] = .nx [.val (.str (tx T)), .val (.int a), .own (done.map (fun c => .str (tx [c])) ++ [.str (tx [39])]), .val (.int ((p ++ [39, 39]).length : Nat)), .val (.str (tx [39]))] := by
        have e5 : (p.length : Int) + 1 + 1 = ((p ++ [39, 39]).length : Nat) := by rw [List.length_append]; simp; omega
        unfold b1_text_at
        simp [hz, h1, hc, hst, hle]
        omega
      rw [one, turn_nx]
      exact ih
    · have e0 : p ++ (dbl (c :: u) ++ 39 :: r) = (p ++ [c]) ++ (dbl u ++ 39 :: r) := by rw [dbl_cons, if_neg h39]; simp
      have ih := text_loop q a r hr u (p ++ [c]) (done ++ [c]) n (.val (.str (tx [c]))) hu' (by rw [List.length_append, List.length_singleton]; omega) (by rw [← e0]; exact hz) (by omega)
      have e1 : p ++ (dbl (c :: u) ++ 39 :: r) = p ++ c :: (dbl u ++ 39 :: r) := by rw [dbl_cons, if_neg h39]; simp
      have h1 := at_len (p := p) (c := c) (r := dbl u ++ 39 :: r)
      have hlt : (p.length : Int) < ((p ++ c :: (dbl u ++ 39 :: r)).length : Nat) := by rw [List.length_append, List.length_cons]; omega
      rw [← e1] at h1 hlt
      have e3 : p ++ [c] ++ dbl u = p ++ dbl (c :: u) := by rw [dbl_cons, if_neg h39]; simp
      have e4 : done ++ [c] ++ u = done ++ c :: u := by simp
      rw [← e0, e2, e3, e4] at ih
      have hit := sign_text hpc
      generalize p ++ (dbl (c :: u) ++ 39 :: r) = T at *
      rw [while_step (by unfold t2_text_at; simp [hz, hlt])]
      have one : b1_text_at [.val (.str (tx T)), .val (.int a), .own (done.map fun c => .str (tx [c])), .val (.int p.length), s4] = .nx [.val (.str (tx T)), .val (.int a), .own (done.map (fun c => .str (tx [c])) ++ [.str (tx [c])]), .val (.int ((p ++ [c]).length : Nat)), .val (.str (tx [c]))] := by
        unfold b1_text_at
        simp [hz, h1, h39, hit, hst, hle]
      rw [one, turn_nx]
      exact ih
theorem text_at_is {p u r : List Nat} (hu : ∀ c ∈ u, plainC c = true) (hl : u.length ≤ 200) (hr : stopB (fun c => decide (c = 39)) r) (hz : (p ++ (39 :: (dbl u ++ [39])) ++ r).length ≤ 16777216) :
    m_text_at [.str (tx (p ++ (39 :: (dbl u ++ [39])) ++ r)), .int p.length] = .ok (tri [116, 101, 120, 116] (.str (tx u)) p.length ((p.length : Int) + ((39 :: (dbl u ++ [39])).length : Int)) (-1)) := by
  have e0 : p ++ (39 :: (dbl u ++ [39])) ++ r = (p ++ [39]) ++ (dbl u ++ 39 :: r) := by simp
  have h := text_loop [] p.length r (fun c hc => by simpa using hr c hc) u (p ++ [39]) [] 1000000 .un hu (by simpa using hl) (by rw [← e0]; exact hz) (by omega)
  rw [← e0, List.map_nil, List.nil_append] at h
  have e2 : (((p ++ [39] ++ dbl u).length : Nat) : Int) + 1 = (p.length : Int) + ((39 :: (dbl u ++ [39])).length : Int) := by simp; omega
  rw [e2] at h
  have e3 : ((p ++ [39]).length : Int) = (p.length : Int) + 1 := by simp
  rw [e3] at h
  unfold m_text_at g_text_at
  generalize p ++ (39 :: (dbl u ++ [39])) ++ r = T at *
  simp [w_text_at_61, h]
/-! marks -/
def PyFrom (len : Nat) (i : Int) : Nat := (max 0 (if i < 0 then i + len else i)).toNat
theorem starts3_tx (T m : List Nat) (k : Nat) (h : k ≤ T.length) : Txt.startswith3 (tx T) (tx m) (k : Int) = decide ((T.drop k).take m.length = m) := by
  have hi : PyFrom (tx T).length (k : Int) = k := by
    unfold PyFrom
    rw [if_neg (by omega)]
    omega
  show (PyFrom (tx T).length (k : Int) + (tx m).length ≤ (tx T).length && Builtin.Str.subAt (tx T) (tx m) (PyFrom (tx T).length (k : Int))) = _
  rw [hi, tx_len, tx_len]
  unfold Builtin.Str.subAt
  have h2 : (tx T).cps.extract k (k + (tx m).length) = ((T.drop k).take m.length).toArray := by
    rw [tx_len]
    show T.toArray.extract k (k + m.length) = _
    simp [List.extract_eq_drop_take]
  rw [h2]
  show (decide (k + m.length ≤ T.length) && (((T.drop k).take m.length).toArray == m.toArray)) = _
  by_cases q : (T.drop k).take m.length = m
  · have hl := congrArg List.length q
    rw [List.length_take, List.length_drop] at hl
    rw [q, decide_eq_true (show k + m.length ≤ T.length by omega)]
    simp
  · have : (((T.drop k).take m.length).toArray == m.toArray) = false := by simpa using q
    rw [this, Bool.and_false, decide_eq_false q]
def MKS : List (List Nat) := [[60, 62], [60, 61], [62, 61], [124, 124], [40], [41], [44], [46], [42], [43], [45], [47], [61], [60], [62]]
theorem marks_are : k_MARKS = .tuple (MKS.map fun m => .str (tx m)) := by unfold k_MARKS MKS; simp
theorem mark_loop {T : List Nat} {a : Nat} (ha : a ≤ T.length) {s : List Nat} (hT : (T.drop a).take s.length = s) (hsl : s.length ≤ 1000) : ∀ (ms : List (List Nat)) (s2 : Sl), (∃ us vs, ms = us ++ s :: vs ∧ ∀ m ∈ us, (T.drop a).take m.length ≠ m) →
    forL (bName 2) b1_mark_at (ms.map fun m => .str (tx m)) [.val (.str (tx T)), .val (.int a), s2] = .rt (tri [109, 97, 114, 107] (.str (tx s)) a ((a : Int) + (s.length : Int)) (-1))
  | [], s2, ⟨us, vs, e, _⟩ => by simp at e
  | m :: ms, s2, ⟨us, vs, e, h⟩ => by
    have hst := starts3_tx T m a ha
    rw [List.map_cons, forL_name]
    cases us with
    | nil =>
      simp at e
      obtain ⟨rfl, _⟩ := e
      rw [decide_eq_true hT] at hst
      have hl : m.length ≤ 16777216 := by omega
      unfold b1_mark_at tri
      simp [dM_is, starts3D, hst, hl]
    | cons u us =>
      rw [List.cons_append] at e
      have e1 := (List.cons.inj e).1
      have e9 := (List.cons.inj e).2
      subst e1
      rw [decide_eq_false (h m List.mem_cons_self)] at hst
      have ih := mark_loop ha hT hsl ms (.val (.str (tx m))) ⟨us, vs, e9, fun x hx => h x (List.mem_cons_of_mem _ hx)⟩
      have one : b1_mark_at [.val (.str (tx T)), .val (.int a), .val (.str (tx m))] = .nx [.val (.str (tx T)), .val (.int a), .val (.str (tx m))] := by
        unfold b1_mark_at
        simp [dM_is, starts3D, hst]
      simp only [List.set_cons_succ, List.set_cons_zero, one, turn_nx]
      exact ih
/-- what may not stand behind a mark -/
def markB (s : List Nat) (c : Nat) : Bool := (decide (s = [60]) || decide (s = [62])) && (decide (c = 61) || decide (c = 62))
theorem mark_first {s r : List Nat} (hs : s ∈ MKS) (hr : stopB (markB s) r) : ∃ us vs, MKS = us ++ s :: vs ∧ ∀ m ∈ us, (s ++ r).take m.length ≠ m := by
  have cases : s = [60, 62] ∨ s = [60, 61] ∨ s = [62, 61] ∨ s = [124, 124] ∨ s = [40] ∨ s = [41] ∨ s = [44] ∨ s = [46] ∨ s = [42] ∨ s = [43] ∨ s = [45] ∨ s = [47] ∨ s = [61] ∨ s = [60] ∨ s = [62] := by
    unfold MKS at hs
    simpa using hs
  have key : ∀ n, MKS[n]? = some s → (∀ m ∈ MKS.take n, (s ++ r).take m.length ≠ m) → ∃ us vs, MKS = us ++ s :: vs ∧ ∀ m ∈ us, (s ++ r).take m.length ≠ m := fun n e h => by
    obtain ⟨hn, e2⟩ := List.getElem?_eq_some_iff.mp e
    exact ⟨MKS.take n, MKS.drop (n + 1), by rw [← e2, List.getElem_cons_drop, List.take_append_drop], h⟩
  rcases cases with h | h | h | h | h | h | h | h | h | h | h | h | h | h | h
  · subst h; exact key 0 rfl (by simp [MKS])
  · subst h; exact key 1 rfl (by simp [MKS])
  · subst h; exact key 2 rfl (by simp [MKS])
  · subst h; exact key 3 rfl (by simp [MKS])
  · subst h; exact key 4 rfl (by simp [MKS])
  · subst h; exact key 5 rfl (by simp [MKS])
  · subst h; exact key 6 rfl (by simp [MKS])
  · subst h; exact key 7 rfl (by simp [MKS])
  · subst h; exact key 8 rfl (by simp [MKS])
  · subst h; exact key 9 rfl (by simp [MKS])
  · subst h; exact key 10 rfl (by simp [MKS])
  · subst h; exact key 11 rfl (by simp [MKS])
  · subst h; exact key 12 rfl (by simp [MKS])
  · subst h
    refine key 13 rfl ?_
    cases r with
    | nil => simp [MKS]
    | cons c r =>
      have q := hr c rfl
      simp [markB] at q
      simp [MKS, q]
  · subst h
    refine key 14 rfl ?_
    cases r with
    | nil => simp [MKS]
    | cons c r =>
      have q := hr c rfl
      simp [markB] at q
      simp [MKS, q]
theorem mark_at_is {p s r : List Nat} (hs : s ∈ MKS) (hr : stopB (markB s) r) :
    m_mark_at [.str (tx (p ++ s ++ r)), .int p.length] = .ok (tri [109, 97, 114, 107] (.str (tx s)) p.length ((p.length : Int) + (s.length : Int)) (-1)) := by
  obtain ⟨us, vs, e, h⟩ := mark_first hs hr
  have hd : (p ++ s ++ r).drop p.length = s ++ r := by rw [List.append_assoc, List.drop_left]
  have hl : s.length ≤ 1000 := by
    have : ∀ m ∈ MKS, m.length ≤ 1000 := by decide
    exact this s hs
  have hloop := mark_loop (T := p ++ s ++ r) (a := p.length) (by rw [List.length_append, List.length_append]; omega) (s := s) (by rw [hd]; simp) hl MKS .un ⟨us, vs, e, by rw [hd]; exact h⟩
  unfold m_mark_at g_mark_at
  generalize p ++ s ++ r = T at *
  simp [marks_are] at hloop ⊢
  simp [hloop]
/-! things -/
inductive Kd where
  | w | n | t | m
def so : Kd → List Nat
  | .w => [119, 111, 114, 100]
  | .n => [110, 117, 109, 98, 101, 114]
  | .t => [116, 101, 120, 116]
  | .m => [109, 97, 114, 107]
/-- a thing: its sort, its signs, its worth -/
structure Th where
  kd : Kd
  s : List Nat
  wd : PyData
def Th.Ok (x : Th) : Prop := match x.kd with
  | .w => WordOk x.s ∧ (∃ c r, x.s = c :: r ∧ letC c = true) ∧ x.wd = .str (tx x.s)
  | .n => (∀ c ∈ x.s, digC c = true) ∧ 1 ≤ x.s.length ∧ x.s.length ≤ 18 ∧ x.wd = .int ((NumText.digitsVal x.s : Nat) : Int)
  | .t => ∃ u, x.s = 39 :: (dbl u ++ [39]) ∧ (∀ c ∈ u, plainC c = true) ∧ u.length ≤ 200 ∧ x.wd = .str (tx u)
  | .m => x.s ∈ MKS ∧ x.wd = .str (tx x.s)
/-- what may not stand behind it -/
def Th.bd (x : Th) (c : Nat) : Bool := match x.kd with
  | .w => wordC c
  | .n => digC c
  | .t => decide (c = 39)
  | .m => markB x.s c
def Th.one (x : Th) (at_ : Nat) : PyData := .tuple [.str (tx (so x.kd)), x.wd, .int at_]
/-- a sign at the head of a mark -/
theorem mark_head {s : List Nat} (h : s ∈ MKS) : ∃ c r, s = c :: r ∧ letC c = false ∧ digC c = false ∧ c ≠ 95 ∧ c ≠ 39 ∧ c ≠ 32 ∧ c ≠ 10 := by
  have : ∀ m ∈ MKS, (match m with | [] => false | c :: _ => !letC c && !digC c && !decide (c = 95) && !decide (c = 39) && !decide (c = 32) && !decide (c = 10)) = true := by decide
  have q := this s h
  cases s with
  | nil => cases q
  | cons c r =>
    simp at q
    exact ⟨c, r, rfl, by simpa [and_assoc] using q⟩
theorem thing_is {x : Th} (hx : x.Ok) {p r : List Nat} (hr : stopB x.bd r) (hz : (p ++ x.s ++ r).length ≤ 16777216) :
    m_thing_at [.str (tx (p ++ x.s ++ r)), .int p.length] = .ok (.tuple [x.one p.length, .int ((p.length : Int) + (x.s.length : Int)), .int (-1)]) := by
  obtain ⟨kd, s, wd⟩ := x
  cases kd with
  | w =>
    obtain ⟨h1, ⟨c, s', e, hc⟩, h3⟩ := hx
    simp only at h1 e h3
    have h := word_is (p := p) h1 hr hz
    have ha : atI (p ++ s ++ r) (p.length : Int) = some c := by rw [e, List.append_assoc]; exact at_len
    simp only at hz
    unfold m_thing_at g_thing_at Th.one
    simp only [h3] 
    generalize p ++ s ++ r = T at *
    simp [hz, ha, let_sign, hc, h, tri, so]
  | n =>
    obtain ⟨h1, h2, h3, h4⟩ := hx
    simp only at h1 h2 h3 h4
    have h := number_is (p := p) h1 h2 h3 hr hz
    cases s with
    | nil => simp at h2
    | cons c s' =>
      have hc := h1 c List.mem_cons_self
      have hc2 : letC c = false := by unfold digC at hc; simp at hc; unfold letC smallC capC; simp; omega
      have hc3 : ¬ c = 95 := by unfold digC at hc; simp at hc; omega
      have ha : atI (p ++ (c :: s') ++ r) (p.length : Int) = some c := by rw [List.append_assoc]; exact at_len
      simp only at hz
      unfold m_thing_at g_thing_at Th.one
      simp only [h4]
      generalize p ++ (c :: s') ++ r = T at *
      simp only [tri] at h
      simp [hz, ha, let_sign, hc, hc2, hc3, fig_sign, h, so]
  | t =>
    obtain ⟨u, h1, h2, h3, h4⟩ := hx
    simp only at h1 h4
    subst h1
    simp only at hz
    have h := text_at_is (p := p) h2 h3 hr hz
    have ha : atI (p ++ (39 :: (dbl u ++ [39])) ++ r) (p.length : Int) = some 39 := by rw [List.append_assoc]; exact at_len
    have q1 : letC 39 = false := by decide
    have q2 : digC 39 = false := by decide
    unfold m_thing_at g_thing_at Th.one
    simp only [h4]
    generalize 39 :: (dbl u ++ [39]) = s at *
    generalize p ++ s ++ r = T at *
    simp only [tri] at h
    simp [hz, ha, let_sign, fig_sign, q1, q2, h, so]
  | m =>
    obtain ⟨h1, h2⟩ := hx
    simp only at h1 h2 hz
    have h := mark_at_is (p := p) h1 hr
    obtain ⟨c, s', e, q1, q2, q3, q4, _⟩ := mark_head h1
    have ha : atI (p ++ s ++ r) (p.length : Int) = some c := by rw [e, List.append_assoc]; exact at_len
    unfold m_thing_at g_thing_at Th.one
    simp only [h2]
    generalize p ++ s ++ r = T at *
    simp only [tri] at h
    simp [hz, ha, let_sign, fig_sign, q1, q2, q3, q4, h, so]
/-! pieces: blanks, then a thing -/
structure Pc where
  sp : List Nat
  th : Th
def flatP : List Pc → List Nat
  | [] => []
  | p :: r => p.sp ++ (p.th.s ++ flatP r)
def duesP : Nat → List Pc → List PyData
  | _, [] => []
  | o, p :: r => p.th.one (o + p.sp.length) :: duesP (o + p.sp.length + p.th.s.length) r
def Blank (l : List Nat) : Prop := ∀ c ∈ l, c = 32 ∨ c = 10
def Chain : List Pc → List Nat → Prop
  | [], tail => Blank tail
  | p :: r, tail => Blank p.sp ∧ p.th.Ok ∧ stopB p.th.bd (flatP r ++ tail) ∧ Chain r tail
theorem okHead {x : Th} (h : x.Ok) : ∃ c r, x.s = c :: r ∧ c ≠ 32 ∧ c ≠ 10 := by
  obtain ⟨kd, s, wd⟩ := x
  cases kd with
  | w =>
    obtain ⟨_, ⟨c, r, e, hc⟩, _⟩ := h
    refine ⟨c, r, e, ?_, ?_⟩ <;> (rintro rfl; revert hc; decide)
  | n =>
    obtain ⟨h1, h2, _⟩ := h
    cases s with
    | nil => simp at h2
    | cons c r =>
      have hc := h1 c List.mem_cons_self
      refine ⟨c, r, rfl, ?_, ?_⟩ <;> (rintro rfl; revert hc; decide)
  | t =>
    obtain ⟨u, e, _⟩ := h
    exact ⟨39, _, e, by decide, by decide⟩
  | m =>
    obtain ⟨h1, _⟩ := h
    obtain ⟨c, r, e, _, _, _, _, h5, h6⟩ := mark_head h1
    exact ⟨c, r, e, h5, h6⟩
theorem scan_blanks (T : List Nat) (hz : T.length ≤ 16777216) (s3 s4 : Sl) (things : List PyData) : ∀ (sp p r : List Nat) (n : Nat), T = p ++ (sp ++ r) → Blank sp → whileN t2_scan b1_scan (n + sp.length) [.val (.str (tx T)), .own things, .val (.int p.length), s3, s4] = whileN t2_scan b1_scan n [.val (.str (tx T)), .own things, .val (.int (p ++ sp).length), s3, s4]
  | [], p, r, n, e, h => by simp
  | c :: sp, p, r, n, e, h => by
    have hat : atI T (p.length : Int) = some c := by rw [e]; exact at_len
    have hlt : (p.length : Int) < (T.length : Nat) := by rw [e, List.length_append, List.cons_append, List.length_cons]; omega
    have ih := scan_blanks T hz s3 s4 things sp (p ++ [c]) r n (by rw [e]; simp) fun x hx => h x (List.mem_cons_of_mem _ hx)
    rw [List.length_cons, ← Nat.add_assoc, while_step (by unfold t2_scan; simp [hz, hlt])]
    have one : b1_scan [.val (.str (tx T)), .own things, .val (.int p.length), s3, s4] = .nx [.val (.str (tx T)), .own things, .val (.int (p ++ [c]).length), s3, s4] := by
      unfold b1_scan
      rcases h c List.mem_cons_self with rfl | rfl
      · simp [hz, hat, eqv_str_str]
      · simp [hz, hat, eqv_str_str]
    rw [one, turn_nx, ih]
    rw [show p ++ [c] ++ sp = p ++ c :: sp by simp]
theorem scan_loop (T : List Nat) (hz : T.length ≤ 16777216) (tail : List Nat) : ∀ (ps : List Pc) (p : List Nat) (things : List PyData) (n : Nat) (s3 s4 : Sl), T = p ++ (flatP ps ++ tail) → Chain ps tail → things.length + ps.length < 1000 → (flatP ps ++ tail).length < n →
    ∃ s2 s3' s4', whileN t2_scan b1_scan n [.val (.str (tx T)), .own things, .val (.int p.length), s3, s4] = .nx [.val (.str (tx T)), .own (things ++ duesP p.length ps), s2, s3', s4']
  | [], p, things, n, s3, s4, e, hc, hk, hn => by
    have e : T = p ++ (tail ++ []) := by rw [e]; simp [flatP]
    simp only [flatP, List.nil_append] at hn
    obtain ⟨m, rfl⟩ : ∃ m, n = (m + 1) + tail.length := ⟨n - tail.length - 1, by omega⟩
    rw [scan_blanks T hz s3 s4 things tail p [] (m + 1) e hc]
    have hlt : ¬ (((p ++ tail).length : Nat) : Int) < (T.length : Nat) := by rw [e]; simp
    rw [while_stop (by unfold t2_scan; generalize p ++ tail = q at *; simp [hz, hlt])]
    exact ⟨.val (.int (p ++ tail).length), s3, s4, by simp [duesP]⟩
  | x :: ps, p, things, n, s3, s4, e, hc, hk, hn => by
    obtain ⟨hb, hok, hs, hr⟩ := hc
    obtain ⟨c, r', es, n32, n10⟩ := okHead hok
    have e1 : T = p ++ (x.sp ++ (x.th.s ++ flatP ps ++ tail)) := by rw [e]; simp [flatP]
    simp only [flatP, List.length_append] at hn
    have hsl : 1 ≤ x.th.s.length := by rw [es, List.length_cons]; omega
    obtain ⟨m, rfl⟩ : ∃ m, n = (m + 1) + x.sp.length := ⟨n - x.sp.length - 1, by omega⟩
    rw [scan_blanks T hz s3 s4 things x.sp p _ (m + 1) e1 hb]
    have e2 : T = (p ++ x.sp) ++ x.th.s ++ (flatP ps ++ tail) := by rw [e1]; simp
    have hat : atI T ((p ++ x.sp).length : Int) = some c := by rw [e2, es, List.append_assoc]; exact at_len
    have ht := thing_is hok (p := p ++ x.sp) hs (by rw [← e2]; exact hz)
    rw [← e2] at ht
    have hlt : (((p ++ x.sp).length : Nat) : Int) < (T.length : Nat) := by rw [e2]; simp; omega
    have hk2 : things.length < 16777216 := by omega
    rw [while_step (by unfold t2_scan; generalize p ++ x.sp = q at *; simp [hz, hlt])]
    have one : b1_scan [.val (.str (tx T)), .own things, .val (.int (p ++ x.sp).length), s3, s4] = .nx [.val (.str (tx T)), .own (things ++ [x.th.one (p ++ x.sp).length]), .val (.int (p ++ x.sp ++ x.th.s).length), .val (x.th.one (p ++ x.sp).length), .val (.int (-1))] := by
      have el : (((p ++ x.sp ++ x.th.s).length : Nat) : Int) = ((p ++ x.sp).length : Int) + (x.th.s.length : Int) := by rw [List.length_append]; omega
      rw [el]
      have hne1 : ¬ 32 = c := fun z => n32 z.symm
      have hne2 : ¬ 10 = c := fun z => n10 z.symm
      unfold b1_scan
      generalize p ++ x.sp = q at *
      generalize x.th.one q.length = w at *
      simp [hz, hat, eqv_str_str, hne1, hne2, ht, bTup, bCons, bNil, hk2]
    rw [one, turn_nx]
    obtain ⟨s2, s3', s4', ih⟩ := scan_loop T hz tail ps (p ++ x.sp ++ x.th.s) (things ++ [x.th.one (p ++ x.sp).length]) m (.val (x.th.one (p ++ x.sp).length)) (.val (.int (-1))) e2 hr (by rw [List.length_append, List.length_singleton]; rw [List.length_cons] at hk; omega) (by rw [List.length_append]; omega)
    refine ⟨s2, s3', s4', ?_⟩
    rw [ih]
    simp [duesP, Nat.add_assoc]
theorem words_are {T : List Nat} (hz : T.length ≤ 16777216) {ps : List Pc} {tail : List Nat} (e : T = flatP ps ++ tail) (hc : Chain ps tail) (hk : ps.length < 900) (hl : T.length < 1000000) : m_words [.str (tx T)] = .ok (.list (duesP 0 ps)) := by
  obtain ⟨s2, s3', s4', h⟩ := scan_loop T hz tail ps [] [] 1000000 .un .un (by simpa using e) hc (by simp; omega) (by rw [← e]; exact hl)
  have hs : m_scan [.str (tx T)] = .ok (.tuple [.list (duesP 0 ps), .int (-1)]) := by
    simp only [List.length_nil, List.nil_append] at h
    unfold m_scan g_scan
    have h' : whileN t2_scan b1_scan 1000000 [.val (.str (tx T)), .own [], .val (.int 0), .un, .un] = .nx [.val (.str (tx T)), .own (duesP 0 ps), s2, s3', s4'] := h
    simp [w_scan_90, h']
  unfold m_words g_words
  simp [hs, bTup, bCons, bNil]
/-! the law's things -/
theorem lres_is : m_law_reserved [] = .ok (.list RES) := by kernel_rfl
def RESL : List (List Nat) := RES.map fun d => match d with
  | .str z => z.cps.toList
  | _ => []
theorem res_map : RES = RESL.map fun l => .str (tx l) := by kernel_rfl
theorem resl_facts : (RESL.all fun l => decide (1 ≤ l.length) && decide (l.length ≤ 20) && l.all capC && hasD (.str (tx l)) RES) = true := by decide +kernel
theorem resl_len : RESL.length = 53 := by decide +kernel
theorem cap_up {c : Nat} (h : capC c = true) : upC c = c ∧ upC (loC c) = c ∧ letC c = true ∧ letC (loC c) = true ∧ c < 127 := by
  unfold capC at h
  simp at h
  have e : loC c = c + 32 := by unfold loC; rw [if_pos (by omega)]
  refine ⟨?_, ?_, ?_, ?_, by omega⟩
  · unfold upC; rw [if_neg (by omega)]
  · rw [e]; unfold upC; rw [if_pos (by omega)]; omega
  · unfold letC smallC capC; simp; omega
  · rw [e]; unfold letC smallC capC; simp; omega
/-- a word in other letters -/
def CasedOf (w s : List Nat) : Prop := s.map upC = w ∧ ∀ c ∈ s, letC c = true
theorem cased_self {w : List Nat} (h : ∀ c ∈ w, capC c = true) : CasedOf w w := by
  refine ⟨?_, fun c hc => (cap_up (h c hc)).2.2.1⟩
  have := List.map_congr_left (f := upC) (g := id) fun c hc => (cap_up (h c hc)).1
  rw [this]; simp
theorem cased_low {w : List Nat} (h : ∀ c ∈ w, capC c = true) : CasedOf w (w.map loC) := by
  refine ⟨?_, fun c hc => ?_⟩
  · rw [List.map_map]
    have := List.map_congr_left (f := upC ∘ loC) (g := id) fun c hc => (cap_up (h c hc)).2.1
    rw [this]; simp
  · obtain ⟨x, hx, rfl⟩ := List.mem_map.mp hc
    exact (cap_up (h x hx)).2.2.2.1
theorem cased_is {w : List Nat} (h : ∀ c ∈ w, capC c = true) (hl : w.length ≤ 20) (d : Int) : ∃ s, m_law_cased [.str (tx w), .int d] = .ok (.str (tx s)) ∧ CasedOf w s := by
  have h127 : ∀ c ∈ w, c < 127 := fun c hc => (cap_up (h c hc)).2.2.2.2
  have hlow := lower_tx h127
  have z1 : w.length ≤ 5592405 := by omega
  have z2 : w.length ≤ 16777216 := by omega
  have hr : rng1 [.int (w.length : Int)] = some (rangeD 0 w.length) := rng1_nat _ (by omega)
  obtain ⟨ρ', e, o, s3, rfl, ho⟩ := forL_invN (i := 3) (g := b1_law_cased) (P := fun k ρ => ∃ o s3, ρ = [.val (.str (tx w)), .val (.int d), .val (.str (tx o)), s3] ∧ CasedOf (w.take k) o) (rangeD 0 w.length) 0 (fun k x hx ρ => by
    rintro ⟨o, s3, rfl, ho1, ho2⟩
    obtain ⟨hk, rfl⟩ := range_get hx
    have hat : atI w (k : Int) = some w[k] := by rw [atI_nat]; exact List.getElem?_eq_getElem hk
    have hc := cap_up (h w[k] (List.getElem_mem hk))
    have hlo : Txt.lower (tx [w[k]]) = tx [loC w[k]] := lower_tx (l := [w[k]]) (fun c hc2 => by rw [List.mem_singleton.mp hc2]; exact hc.2.2.2.2)
    have holen : o.length ≤ 20 := by
      have := congrArg List.length ho1
      rw [List.length_map, List.length_take] at this
      omega
    have q1 : o.length + 1 ≤ 16777216 := by omega
    have q2 : o.length ≤ 16777215 := by omega
    have d1 : (0 : Int) < 3 + (k : Int) := by omega
    have d2 : 3 + (k : Int) < 18446744073709551616 := by omega
    have ht : w.take (0 + k + 1) = w.take (0 + k) ++ [w[k]] := by rw [Nat.zero_add, List.take_succ_eq_append_getElem hk]
    by_cases hm : (d.fdiv (3 + (k : Int))).fmod 2 = 0
    · refine ⟨[.val (.str (tx w)), .val (.int d), .val (.str (tx (o ++ [loC w[k]]))), .val (.int k)], ?_, _, _, rfl, ?_, ?_⟩
      · unfold b1_law_cased
        simp [dM_is, z2, hat, hlo, d1, d2, hm, q1, q2]
      · rw [ht, List.map_append, ho1]; simp [hc.2.1]
      · intro c hc2
        rcases List.mem_append.mp hc2 with hc2 | hc2
        · exact ho2 c hc2
        · rw [List.mem_singleton.mp hc2]; exact hc.2.2.2.1
    · refine ⟨[.val (.str (tx w)), .val (.int d), .val (.str (tx (o ++ [w[k]]))), .val (.int k)], ?_, _, _, rfl, ?_, ?_⟩
      · unfold b1_law_cased
        simp [dM_is, z2, hat, d1, d2, hm, q1, q2]
      · rw [ht, List.map_append, ho1]; simp [hc.1]
      · intro c hc2
        rcases List.mem_append.mp hc2 with hc2 | hc2
        · exact ho2 c hc2
        · rw [List.mem_singleton.mp hc2]; exact hc.2.2.1) [.val (.str (tx w)), .val (.int d), .val (.str (tx [])), .un] ⟨[], .un, rfl, rfl, fun c hc => by cases hc⟩
  rw [rangeD_length, Nat.zero_add, List.take_length] at ho
  unfold m_law_cased g_law_cased
  by_cases c0 : d.fmod 3 = 0
  · exact ⟨w, by simp [c0], cased_self h⟩
  by_cases c1 : d.fmod 3 = 1
  · exact ⟨w.map loC, by simp [dM_is, c0, c1, z1, hlow], cased_low h⟩
  · exact ⟨o, by simp [c0, c1, z2, hr, e], ho⟩
theorem cased_ok {w s : List Nat} (hw : w ∈ RESL) (h : CasedOf w s) : Th.Ok ⟨.w, s, .str (tx s)⟩ := by
  have f := List.all_eq_true.mp resl_facts w hw
  simp only [Bool.and_eq_true, decide_eq_true_eq] at f
  obtain ⟨⟨⟨f1, f2⟩, f3⟩, f4⟩ := f
  have hl : s.length = w.length := by rw [← h.1, List.length_map]
  have hne : s ≠ [] := fun z => by rw [z] at hl; simp at hl; omega
  have hall : ∀ c ∈ s, wordC c = true := fun c hc => by unfold wordC; rw [h.2 c hc]; rfl
  refine ⟨⟨hne, by show s.length ≤ 20; omega, hall, .inl ?_⟩, ?_, rfl⟩
  · unfold resB
    show hasD (.str (tx (s.map upC))) RES = true
    rw [h.1]; exact f4
  · cases s with
    | nil => exact absurd rfl hne
    | cons c r => exact ⟨c, r, rfl, h.2 c List.mem_cons_self⟩
/-! names -/
def SM : List Nat := [97, 98, 99, 100, 101, 102, 103, 104, 105, 106, 107, 108, 109, 110, 111, 112, 113, 114, 115, 116, 117, 118, 119, 120, 121, 122]
def FG : List Nat := [95, 48, 49, 50, 51, 52, 53, 54, 55, 56, 57]
def NM : List Nat := SM ++ FG ++ SM
theorem sm_small : ∀ c ∈ SM, smallC c = true := by decide
theorem nm_name : ∀ c ∈ NM, nameC c = true := by decide
theorem lword_is (xs : List Int) (hl : 11 ≤ xs.length) (hb : ∀ x ∈ xs, Big x) : ∃ c r, m_law_word [.list (xs.map .int)] = .ok (.str (tx (c :: r))) ∧ smallC c = true ∧ (∀ x ∈ c :: r, nameC x = true) ∧ (c :: r).length ≤ 20 := by
  obtain ⟨x0, h0, _⟩ := at_int xs 0 (by omega)
  obtain ⟨x1, h1, _⟩ := at_int xs 1 (by omega)
  obtain ⟨x2, h2, _⟩ := at_int xs 2 (by omega)
  have f1 := fmod_bound (a := x1) (b := 5) (by decide)
  have f2 := fmod_bound (a := x1) (b := 2) (by decide)
  have f3 := fmod_bound (a := x2) (b := 26) (by decide)
  obtain ⟨c, hc, hcm⟩ := atI_mem (xs := SM) f3.1 (by have : SM.length = 26 := rfl; omega)
  have loop : ∀ (sz : Int) (n : Nat), n ≤ 19 → ∃ o s4, forL (bName 4) b1_law_word (rangeD 0 n) [.val (.list (xs.map .int)), .val (.int sz), .val (.str (tx SM)), .val (.str (tx [c])), .un] = .nx [.val (.list (xs.map .int)), .val (.int sz), .val (.str (tx SM)), .val (.str (tx (c :: o))), s4] ∧ o.length = n ∧ ∀ x ∈ o, nameC x = true := fun sz n hn => by
    obtain ⟨ρ', e, o, s4, rfl, ho1, ho2⟩ := forL_invN (i := 4) (g := b1_law_word) (P := fun k ρ => ∃ o s4, ρ = [.val (.list (xs.map .int)), .val (.int sz), .val (.str (tx SM)), .val (.str (tx (c :: o))), s4] ∧ o.length = k ∧ ∀ x ∈ o, nameC x = true) (rangeD 0 n) 0 (fun k d hd ρ => by
      rintro ⟨o, s4, rfl, ho1, ho2⟩
      obtain ⟨hk, rfl⟩ := range_get hd
      have g1 := fmod_bound (a := (k : Int)) (b := 5) (by decide)
      obtain ⟨y, hy, _⟩ := atI_ints (xs := xs) (i := 3 + (k : Int).fmod 5) (by omega) (by omega)
      have g2 := fmod_bound (a := y + (k : Int).fdiv 5 * 7) (b := 63) (by decide)
      obtain ⟨z, hz, hzm⟩ := atI_mem (xs := NM) g2.1 (by have : NM.length = 63 := rfl; omega)
      have q1 : o.length ≤ 16777214 := by omega
      refine ⟨[.val (.list (xs.map .int)), .val (.int sz), .val (.str (tx SM)), .val (.str (tx (c :: (o ++ [z])))), .val (.int k)], ?_, _, _, rfl, by rw [List.length_append, ho1]; rfl, fun x hx => ?_⟩
      · unfold NM SM FG at hz
        unfold SM
        unfold b1_law_word
        simp at hz
        simp [hy, hz, q1]
      · rcases List.mem_append.mp hx with hx | hx
        · exact ho2 x hx
        · rw [List.mem_singleton.mp hx]; exact nm_name z hzm) [.val (.list (xs.map .int)), .val (.int sz), .val (.str (tx SM)), .val (.str (tx [c])), .un] ⟨[], .un, rfl, rfl, fun x hx => by cases hx⟩
    rw [rangeD_length, Nat.zero_add] at ho1
    exact ⟨o, s4, e, ho1, ho2⟩
  have fin : ∀ o : List Nat, (∀ x ∈ o, nameC x = true) → ∀ x ∈ c :: o, nameC x = true := fun o ho x hx => by
    rcases List.mem_cons.mp hx with rfl | hx
    · unfold nameC; rw [sm_small _ hcm]; rfl
    · exact ho x hx
  unfold m_law_word g_law_word
  by_cases q : x0.fmod 9 = 0
  · obtain ⟨n, hn⟩ : ∃ n : Nat, 19 + x1.fmod 2 - 1 = (n : Int) := ⟨(19 + x1.fmod 2 - 1).toNat, by omega⟩
    obtain ⟨o, s4, e, ho1, ho2⟩ := loop (19 + x1.fmod 2) n (by omega)
    have hr : rng1 [.int (n : Int)] = some (rangeD 0 n) := rng1_nat n (by omega)
    refine ⟨c, o, ?_, sm_small c hcm, fin o ho2, by rw [List.length_cons, ho1]; omega⟩
    unfold SM at e hc
    simp [h0, h1, h2, q, hc, hn, hr, e]
  · obtain ⟨n, hn⟩ : ∃ n : Nat, 1 + x1.fmod 5 - 1 = (n : Int) := ⟨(1 + x1.fmod 5 - 1).toNat, by omega⟩
    obtain ⟨o, s4, e, ho1, ho2⟩ := loop (1 + x1.fmod 5) n (by omega)
    have hr : rng1 [.int (n : Int)] = some (rangeD 0 n) := rng1_nat n (by omega)
    refine ⟨c, o, ?_, sm_small c hcm, fin o ho2, by rw [List.length_cons, ho1]; omega⟩
    unfold SM at e hc
    simp [h0, h1, h2, q, hc, hn, hr, e]
theorem name_ok {c : Nat} {r : List Nat} (h1 : smallC c = true) (h2 : ∀ x ∈ c :: r, nameC x = true) (h3 : (c :: r).length ≤ 20) : Th.Ok ⟨.w, c :: r, .str (tx (c :: r))⟩ := by
  refine ⟨⟨by simp, h3, fun x hx => ?_, .inr ⟨c, r, rfl, h1, h2⟩⟩, ⟨c, r, rfl, by unfold letC; rw [h1]; rfl⟩, rfl⟩
  have := h2 x hx
  unfold nameC at this
  unfold wordC letC
  simp at this ⊢
  rcases this with h | h
  · exact .inl (.inl h)
  · exact .inr h
/-! numbers, texts, marks -/
theorem lnum_is {a b : Int} (ha : Big a) (hb : Big b) (k : Nat) (hk : k ≤ 3) : ∃ l : List Nat, strD [.int ((a * 10000000 + b).fmod 1000000000000000)] = some (.str (tx l)) ∧ (∀ c ∈ List.replicate k 48 ++ l, digC c = true) ∧ 1 ≤ (List.replicate k 48 ++ l).length ∧ (List.replicate k 48 ++ l).length ≤ 18 ∧ l.length ≤ 15 := by
  have h := fmod_bound (a := a * 10000000 + b) (b := 1000000000000000) (by decide)
  generalize (a * 10000000 + b).fmod 1000000000000000 = n at *
  have hlog : n.natAbs.log2 < 1920 := by
    by_cases h0 : n.natAbs = 0
    · rw [h0]; decide
    · have : n.natAbs.log2 < 64 := (Nat.log2_lt h0).mpr (by omega)
      omega
  have hs : strD [.int n] = some (.str (tx (dg n.natAbs))) := by
    show (if n.natAbs.log2 < 1920 then some (PyData.str (Str.ofString (toString n))) else none) = _
    rw [if_pos hlog, words_tx, if_neg (by omega)]
  obtain ⟨d1, d2⟩ := dg_digs n.natAbs
  have d3 : (dg n.natAbs).length ≤ 15 := by
    unfold dg
    rw [List.length_map]
    exact PyProof.Rows.digits10_le (k := 15) (n := n.natAbs) (by decide) (by
      have : (10 : Nat) ^ 15 = 1000000000000000 := by decide +kernel
      omega)
  refine ⟨dg n.natAbs, hs, fun c hc => ?_, by rw [List.length_append]; omega, by rw [List.length_append, List.length_replicate]; omega, d3⟩
  rcases List.mem_append.mp hc with hc | hc
  · rw [(List.mem_replicate.mp hc).2]; decide
  · exact List.all_eq_true.mp d1 c hc
theorem replS_mem {y z : List Nat} : ∀ (x : List Nat) (s : Nat) (c : Nat), c ∈ PySem.StrLaws.replS y z s x → c ∈ x ∨ c ∈ z
  | [], s, c, h => by unfold PySem.StrLaws.replS at h; cases h
  | a :: x, 0, c, h => by
    unfold PySem.StrLaws.replS at h
    split at h
    · rcases List.mem_append.mp h with h | h
      · exact .inr h
      · rcases replS_mem x _ c h with h | h
        · exact .inl (List.mem_cons_of_mem _ h)
        · exact .inr h
    · rcases List.mem_cons.mp h with h | h
      · exact .inl (h ▸ List.mem_cons_self)
      · rcases replS_mem x _ c h with h | h
        · exact .inl (List.mem_cons_of_mem _ h)
        · exact .inr h
  | a :: x, s + 1, c, h => by
    unfold PySem.StrLaws.replS at h
    rcases replS_mem x s c h with h | h
    · exact .inl (List.mem_cons_of_mem _ h)
    · exact .inr h
theorem repl_tx {x y z : List Nat} (hy : 1 ≤ y.length) (hx : ∀ c ∈ x, plainC c = true) (hz : ∀ c ∈ z, plainC c = true) : ∃ l, Txt.replace (tx x) (tx y) (tx z) = tx l ∧ (∀ c ∈ l, plainC c = true) ∧ l.length ≤ x.length + (x.length + 1) * z.length := by
  refine ⟨(Txt.replace (tx x) (tx y) (tx z)).cps.toList, ?_, fun c hc => ?_, ?_⟩
  · obtain ⟨l, e⟩ := tx_of (Txt.replace (tx x) (tx y) (tx z))
    rw [e, tx_cps]
  · rw [PySem.StrLaws.replace_list (by rw [tx_len]; exact hy), tx_cps, tx_cps, tx_cps] at hc
    rcases replS_mem x 0 c hc with h | h
    · exact hx c h
    · exact hz c h
  · have := TK.replace_len (tx x) (tx y) (tx z)
    rw [tx_len, tx_len] at this
    exact this
theorem repl_dbl (x : List Nat) : Txt.replace (tx x) (tx [39]) (tx [39, 39]) = tx (dbl x) := by
  have h := PySem.StrLaws.replace_double (tx x) 39
  have e : ∀ l : List Nat, PySem.StrLaws.dbl 39 l = dbl l := fun l => by
    induction l with
    | nil => rfl
    | cons c l ih =>
      rw [dbl_cons]
      show (if c = 39 then c :: c :: PySem.StrLaws.dbl 39 l else c :: PySem.StrLaws.dbl 39 l) = _
      rw [ih]
      by_cases hc : c = 39
      · subst hc; rfl
      · rw [if_neg hc, if_neg hc]; rfl
  rw [tx_cps, e] at h
  obtain ⟨l, e2⟩ := tx_of (Txt.replace (tx x) (tx [39]) (tx [39, 39]))
  have e3 : Txt.replace (tx x) (tx [39]) (tx [39, 39]) = Txt.replace (tx x) ⟨#[39]⟩ ⟨#[39, 39]⟩ := rfl
  rw [← e3, e2, tx_cps] at h
  rw [e2, h]
def Th.dat (x : Th) : PyData := .list [.str (tx x.s), .tuple [.str (tx (so x.kd)), x.wd]]
@[simp] theorem dat_none (x : Th) : isD x.dat .none = some (.bool false) := nd rfl
@[simp] theorem dat_1 (x : Th) : ixD x.dat (.int 1) = some (.tuple [.str (tx (so x.kd)), x.wd]) := nd rfl
@[simp] theorem dat_0 (x : Th) : ixD x.dat (.int 0) = some (.str (tx x.s)) := nd rfl
theorem res_at {i : Int} (h0 : 0 ≤ i) (h1 : i < 53) : ∃ w, atI RES i = some (.str (tx w)) ∧ w ∈ RESL := by
  have hl : RES.length = 53 := by rw [res_map, List.length_map, resl_len]
  obtain ⟨d, h, hm⟩ := atI_mem (xs := RES) h0 (by omega)
  have hm2 := hm
  rw [res_map] at hm2
  obtain ⟨w, hw, rfl⟩ := List.mem_map.mp hm2
  exact ⟨w, h, hw⟩
def LMK : List (List Nat) := [[40], [41], [44], [46], [42], [43], [45], [47], [61], [60, 62], [60], [60, 61], [62], [62, 61], [124, 124]]
theorem lmk_split : Txt.split (tx [40, 32, 41, 32, 44, 32, 46, 32, 42, 32, 43, 32, 45, 32, 47, 32, 61, 32, 60, 62, 32, 60, 32, 60, 61, 32, 62, 32, 62, 61, 32, 124, 124]) (tx [32]) = LMK.map tx := by kernel_rfl
theorem lmk_mks : ∀ m ∈ LMK, m ∈ MKS := by decide
@[simp] theorem splitD_tx (a b : List Nat) (h1 : 1 ≤ b.length) (h2 : a.length + 2 ≤ 16777216) : splitD (.str (tx a)) [.str (tx b)] = some (.list ((Txt.split (tx a) (tx b)).map .str)) := by
  show (if (tx b).length ≠ 0 ∧ (tx a).length + 2 ≤ 16777216 then some (PyData.list ((Txt.split (tx a) (tx b)).map .str)) else none) = _
  rw [if_pos ⟨by rw [tx_len]; omega, by rw [tx_len]; exact h2⟩]
theorem replD_tx (x y z : List Nat) (h : x.length + (x.length + 1) * z.length ≤ 16777216) : replD (tx y) (tx z) (.str (tx x)) = some (.str (Txt.replace (tx x) (tx y) (tx z))) := by
  show (if (tx x).length + ((tx x).length + 1) * (tx z).length ≤ 16777216 then some (PyData.str (Txt.replace (tx x) (tx y) (tx z))) else none) = _
  rw [if_pos (by rw [tx_len, tx_len]; exact h)]
theorem lthing_is (xs : List Int) (hl : xs.length = 11) (hb : ∀ x ∈ xs, Big x) : ∃ x : Th, m_law_thing [.list (xs.map .int)] = .ok x.dat ∧ x.Ok ∧ x.s.length ≤ 402 := by
  obtain ⟨x0, h0, _⟩ := at_int xs 0 (by omega)
  obtain ⟨x1, h1, m1⟩ := at_int xs 1 (by omega)
  obtain ⟨x2, h2, m2⟩ := at_int xs 2 (by omega)
  obtain ⟨x3, h3, m3⟩ := at_int xs 3 (by omega)
  have w0 := fmod_bound (a := x0) (b := 8) (by decide)
  by_cases c2 : x0.fmod 8 < 2
  · have f1 := fmod_bound (a := x1) (b := 53) (by decide)
    obtain ⟨w, hw, hwm⟩ := res_at f1.1 f1.2
    have f := List.all_eq_true.mp resl_facts w hwm
    simp only [Bool.and_eq_true, decide_eq_true_eq] at f
    obtain ⟨⟨⟨f1, f2⟩, f3⟩, f4⟩ := f
    obtain ⟨s, hs, hc⟩ := cased_is (fun c hc => List.all_eq_true.mp f3 c hc) f2 x2
    have hok := cased_ok hwm hc
    refine ⟨⟨.w, s, .str (tx s)⟩, ?_, hok, by have := hok.1.le; simp only at this ⊢; omega⟩
    unfold m_law_thing g_law_thing Th.dat
    simp [h0, h1, h2, c2, lres_is, hw, hs, so]
  by_cases c4 : x0.fmod 8 < 4
  · obtain ⟨c, r, e, q1, q2, q3⟩ := lword_is xs (by omega) hb
    refine ⟨⟨.w, c :: r, .str (tx (c :: r))⟩, ?_, name_ok q1 q2 q3, by simp only; omega⟩
    unfold m_law_thing g_law_thing Th.dat
    simp [h0, c2, c4, e, so]
  by_cases c5 : x0.fmod 8 = 4
  · have f1 := fmod_bound (a := x1) (b := 4) (by decide)
    obtain ⟨k, hk⟩ : ∃ k : Nat, x1.fmod 4 = (k : Int) := ⟨(x1.fmod 4).toNat, by omega⟩
    obtain ⟨l, e, q1, q2, q3, q4⟩ := lnum_is (hb x2 m2) (hb x3 m3) k (by omega)
    have hi := int_figs (List.all_eq_true.mpr q1) q2 q3
    have hi2 : (if (List.replicate k 48 ++ l).length ≤ 640 then Option.map PyData.int (PySem.intText? (tx (List.replicate k 48 ++ l))) else none) = some (.int ((NumText.digitsVal (List.replicate k 48 ++ l) : Nat) : Int)) := by
      rw [intXD_str, tx_len] at hi; exact hi
    refine ⟨⟨.n, List.replicate k 48 ++ l, .int ((NumText.digitsVal (List.replicate k 48 ++ l) : Nat) : Int)⟩, ?_, ⟨q1, q2, q3, rfl⟩, by simp only; omega⟩
    have k1 : k ≤ 1000 := by omega
    have k2 : k + l.length ≤ 16777216 := by omega
    unfold m_law_thing g_law_thing Th.dat
    rw [List.length_append, List.length_replicate] at hi2
    simp [h0, h1, h2, h3, c2, c4, c5, hk, k1, k2, e, hi2, so]
  by_cases c6 : x0.fmod 8 = 5
  · have f1 := fmod_bound (a := x1) (b := 8) (by decide)
    have f2 := fmod_bound (a := x1) (b := 2) (by decide)
    have hcut : cutD (xs.map PyData.int) (some 3) none = (xs.drop 3).map .int := by rw [List.map_drop, cutD_is]; exact cutL_from _ 3
    obtain ⟨n, hn, hn2⟩ : ∃ n : Nat, (if x2.fmod 12 = 0 then 199 + x1.fmod 2 else x1.fmod 8) = (n : Int) ∧ n ≤ 200 := by
      by_cases q : x2.fmod 12 = 0
      · rw [if_pos q]; exact ⟨(199 + x1.fmod 2).toNat, by omega, by omega⟩
      · rw [if_neg q]; exact ⟨(x1.fmod 8).toNat, by omega, by omega⟩
    obtain ⟨l, hl1, hl2, hl3⟩ := text_is (xs.drop 3) n (fun z => by have := congrArg List.length z; rw [List.length_drop] at this; simp at this; omega) (by rw [List.length_drop]; omega) (by omega)
    rw [List.map_drop] at hl1 hcut
    obtain ⟨l2, e2, p2, g2⟩ := repl_tx (x := l) (y := [97]) (z := [39]) (by decide) hl3 (by decide)
    obtain ⟨l3, e3, p3, g3⟩ := repl_tx (x := l2) (y := [98]) (z := [39, 39]) (by decide) p2 (by decide)
    simp only [List.length_cons, List.length_nil] at g2 g3
    have r1 : replD (tx [97]) (tx [39]) (.str (tx l)) = some (.str (tx l2)) := by rw [replD_tx _ _ _ (by simp; omega), e2]
    have r2 : replD (tx [98]) (tx [39, 39]) (.str (tx l2)) = some (.str (tx l3)) := by rw [replD_tx _ _ _ (by simp; omega), e3]
    have hu : (l3.take 200).length ≤ 200 := List.length_take_le _ _
    have r3 : replD (tx [39]) (tx [39, 39]) (.str (tx (l3.take 200))) = some (.str (tx (dbl (l3.take 200)))) := by rw [replD_tx _ _ _ (by simp only [List.length_cons, List.length_nil]; omega), repl_dbl]
    have hcu : cutL l3 none (some 200) = l3.take 200 := cutL_to l3 200
    have hdl := dbl_len (l3.take 200)
    have hpl : ∀ c ∈ l3.take 200, plainC c = true := fun c hc => p3 c (List.mem_of_mem_take hc)
    generalize l3.take 200 = u at *
    have z1 : l3.length ≤ 16777216 := by omega
    have z2 : 1 + (dbl u).length ≤ 16777216 := by omega
    have z3 : (dbl u).length + 1 ≤ 16777216 := by omega
    have z4 : 1 + (dbl u).length + 1 ≤ 16777216 := by omega
    have z5 : (dbl u).length ≤ 16777215 := by omega
    have z6 : (dbl u).length + 1 ≤ 16777215 := by omega
    have z7 : (dbl u).length ≤ 16777214 := by omega
    refine ⟨⟨.t, 39 :: (dbl u ++ [39]), .str (tx u)⟩, ?_, ⟨u, rfl, hpl, hu, rfl⟩, by simp; omega⟩
    unfold m_law_thing g_law_thing Th.dat
    by_cases q : x2.fmod 12 = 0
    · rw [if_pos q] at hn
      simp [h0, h1, h2, c2, c4, c5, c6, hcut, q, hn, hl1, r1, r2, hcu, r3, z1, z2, z3, z4, z5, z6, z7, so]
    · rw [if_neg q] at hn
      simp [h0, h1, h2, c2, c4, c5, c6, hcut, q, hn, hl1, r1, r2, hcu, r3, z1, z2, z3, z4, z5, z6, z7, so]
  · have f1 := fmod_bound (a := x1) (b := 15) (by decide)
    obtain ⟨s, e, hm⟩ := atI_mem (xs := LMK) f1.1 (by have : LMK.length = 15 := rfl; omega)
    have e2 : atI (LMK.map fun l => PyData.str (tx l)) (x1.fmod 15) = some (.str (tx s)) := by
      obtain ⟨j, hj⟩ := Int.eq_ofNat_of_zero_le f1.1
      rw [hj] at e ⊢
      have e' : LMK[j]? = some s := by rw [← atI_nat]; exact e
      show atI _ ((j : Nat) : Int) = _
      rw [atI_nat, List.getElem?_map, e']
      rfl
    have hms := lmk_mks s hm
    have hsl : s.length ≤ 402 := by
      have : ∀ m ∈ MKS, m.length ≤ 402 := by decide
      exact this s hms
    refine ⟨⟨.m, s, .str (tx s)⟩, ?_, ⟨hms, rfl⟩, hsl⟩
    have hsp := lmk_split
    have e3 : List.map PyData.str (LMK.map tx) = LMK.map fun l => PyData.str (tx l) := by rw [List.map_map]; rfl
    unfold m_law_thing g_law_thing Th.dat
    simp [h0, h1, c2, c4, c5, c6, dM_is, hsp, e3, e2, so]
/-! a chain that is still open -/
def OpenC : List Pc → Prop
  | [] => True
  | p :: r => Blank p.sp ∧ p.th.Ok ∧ (r = [] ∨ stopB p.th.bd (flatP r)) ∧ OpenC r
theorem flatP_app : ∀ a b : List Pc, flatP (a ++ b) = flatP a ++ flatP b
  | [], b => rfl
  | p :: a, b => by
    rw [List.cons_append]
    simp only [flatP]
    rw [flatP_app a b]
    simp
theorem duesP_app : ∀ (a b : List Pc) (o : Nat), duesP o (a ++ b) = duesP o a ++ duesP (o + (flatP a).length) b
  | [], b, o => by simp [duesP, flatP]
  | p :: a, b, o => by
    rw [List.cons_append]
    simp only [duesP, flatP]
    rw [duesP_app a b, List.cons_append, List.length_append, List.length_append]
    congr 3
    omega
theorem flatP_head {r : List Pc} (h : OpenC r) (hr : r ≠ []) (t : List Nat) : (flatP r ++ t).head? = (flatP r).head? ∧ flatP r ≠ [] := by
  cases r with
  | nil => exact absurd rfl hr
  | cons p r =>
    obtain ⟨c, q, e, _⟩ := okHead h.2.1
    have hne : flatP (p :: r) ≠ [] := by simp [flatP, e]
    refine ⟨?_, hne⟩
    cases hf : flatP (p :: r) with
    | nil => exact absurd hf hne
    | cons a l => rfl
theorem blank_stop {x : Th} (hx : x.Ok) {t : List Nat} (h : Blank t) : stopB x.bd t := fun c hc => by
  have hm : c ∈ t := List.mem_of_head? hc
  obtain ⟨k, s, w⟩ := x
  rcases h c hm with rfl | rfl
  · cases k with
    | w => rfl
    | n => rfl
    | t => rfl
    | m => show markB s 32 = false; unfold markB; simp
  · cases k with
    | w => rfl
    | n => rfl
    | t => rfl
    | m => show markB s 10 = false; unfold markB; simp
theorem open_chain : ∀ {ps : List Pc} {t : List Nat}, OpenC ps → Blank t → Chain ps t
  | [], t, _, h => h
  | p :: r, t, ⟨h1, h2, h3, h4⟩, h => by
    refine ⟨h1, h2, ?_, open_chain h4 h⟩
    by_cases hr : r = []
    · subst hr; exact blank_stop h2 h
    · rcases h3 with h3 | h3
      · exact absurd h3 hr
      · intro c hc
        rw [(flatP_head h4 hr t).1] at hc
        exact h3 c hc
theorem open_snoc : ∀ {ps : List Pc} {y : Pc}, OpenC ps → Blank y.sp → y.th.Ok → (∀ x, ps.getLast? = some x → stopB x.th.bd (y.sp ++ y.th.s)) → OpenC (ps ++ [y])
  | [], y, _, h1, h2, _ => ⟨h1, h2, .inl rfl, True.intro⟩
  | p :: r, y, ⟨a1, a2, a3, a4⟩, h1, h2, h3 => by
    rw [List.cons_append]
    by_cases hr : r = []
    · subst hr
      refine ⟨a1, a2, .inr ?_, ⟨h1, h2, .inl rfl, True.intro⟩⟩
      have := h3 p rfl
      intro c hc
      have e : flatP ([] ++ [y]) = y.sp ++ y.th.s := by simp [flatP]
      rw [e] at hc
      exact this c hc
    · have ih := open_snoc (ps := r) (y := y) a4 h1 h2 fun x hx => h3 x (by rw [List.getLast?_cons]; rw [hx]; rfl)
      refine ⟨a1, a2, .inr ?_, ih⟩
      rcases a3 with a3 | a3
      · exact absurd a3 hr
      · intro c hc
        rw [flatP_app, (flatP_head a4 hr _).1] at hc
        exact a3 c hc
theorem stop_app {sp s : List Nat} {x : Th} (hx : x.Ok) (h : Blank sp) (h2 : sp = [] → stopB x.bd s) : stopB x.bd (sp ++ s) := by
  cases sp with
  | nil => exact h2 rfl
  | cons c sp =>
    intro d hd
    have := blank_stop hx h d (by rw [List.head?_cons]; simpa using hd)
    exact this
theorem getLast_ok : ∀ {ps : List Pc} {x : Pc}, OpenC ps → ps.getLast? = some x → x.th.Ok
  | [], x, _, h => by simp at h
  | p :: r, x, ⟨_, a2, _, a4⟩, h => by
    by_cases hr : r = []
    · subst hr
      simp at h
      subst h
      exact a2
    · refine getLast_ok (ps := r) a4 ?_
      rw [List.getLast?_cons] at h
      cases hl : r.getLast? with
      | none => simp at hl; exact absurd hl hr
      | some z => rw [hl] at h; simpa using h
/-! what is no thing -/
def ChainR : List Pc → List Nat → Prop
  | [], _ => True
  | p :: r, rest => Blank p.sp ∧ p.th.Ok ∧ stopB p.th.bd (flatP r ++ rest) ∧ ChainR r rest
def stepsP : List Pc → Nat
  | [] => 0
  | p :: r => stepsP r + 1 + p.sp.length
theorem scan_pre (T : List Nat) (hz : T.length ≤ 16777216) (rest : List Nat) : ∀ (ps : List Pc) (p : List Nat) (things : List PyData) (n : Nat) (s3 s4 : Sl), T = p ++ (flatP ps ++ rest) → ChainR ps rest → things.length + ps.length < 1000 →
    ∃ s3' s4', whileN t2_scan b1_scan (n + stepsP ps) [.val (.str (tx T)), .own things, .val (.int p.length), s3, s4] = whileN t2_scan b1_scan n [.val (.str (tx T)), .own (things ++ duesP p.length ps), .val (.int (p ++ flatP ps).length), s3', s4']
  | [], p, things, n, s3, s4, e, hc, hk => ⟨s3, s4, by simp [stepsP, duesP, flatP]⟩
  | x :: ps, p, things, n, s3, s4, e, hc, hk => by
    obtain ⟨hb, hok, hs, hr⟩ := hc
    obtain ⟨c, r', es, n32, n10⟩ := okHead hok
    have e1 : T = p ++ (x.sp ++ (x.th.s ++ flatP ps ++ rest)) := by rw [e]; simp [flatP]
    have hsl : 1 ≤ x.th.s.length := by rw [es, List.length_cons]; omega
    rw [show n + stepsP (x :: ps) = (n + stepsP ps + 1) + x.sp.length by simp only [stepsP]; omega]
    rw [scan_blanks T hz s3 s4 things x.sp p _ _ e1 hb]
    have e2 : T = (p ++ x.sp) ++ x.th.s ++ (flatP ps ++ rest) := by rw [e1]; simp
    have hat : atI T ((p ++ x.sp).length : Int) = some c := by rw [e2, es, List.append_assoc]; exact at_len
    have ht := thing_is hok (p := p ++ x.sp) hs (by rw [← e2]; exact hz)
    rw [← e2] at ht
    have hlt : (((p ++ x.sp).length : Nat) : Int) < (T.length : Nat) := by rw [e2]; simp; omega
    have hk2 : things.length < 16777216 := by omega
    rw [while_step (by unfold t2_scan; generalize p ++ x.sp = q at *; simp [hz, hlt])]
    have one : b1_scan [.val (.str (tx T)), .own things, .val (.int (p ++ x.sp).length), s3, s4] = .nx [.val (.str (tx T)), .own (things ++ [x.th.one (p ++ x.sp).length]), .val (.int (p ++ x.sp ++ x.th.s).length), .val (x.th.one (p ++ x.sp).length), .val (.int (-1))] := by
      have el : (((p ++ x.sp ++ x.th.s).length : Nat) : Int) = ((p ++ x.sp).length : Int) + (x.th.s.length : Int) := by rw [List.length_append]; omega
      rw [el]
      have hne1 : ¬ 32 = c := fun z => n32 z.symm
      have hne2 : ¬ 10 = c := fun z => n10 z.symm
      unfold b1_scan
      generalize p ++ x.sp = q at *
      generalize x.th.one q.length = w at *
      simp [hz, hat, eqv_str_str, hne1, hne2, ht, bTup, bCons, bNil, hk2]
    rw [one, turn_nx]
    obtain ⟨s3', s4', ih⟩ := scan_pre T hz rest ps (p ++ x.sp ++ x.th.s) (things ++ [x.th.one (p ++ x.sp).length]) n (.val (x.th.one (p ++ x.sp).length)) (.val (.int (-1))) e2 hr (by rw [List.length_append, List.length_singleton]; rw [List.length_cons] at hk; omega)
    refine ⟨s3', s4', ?_⟩
    rw [ih]
    simp [duesP, flatP, Nat.add_assoc]
def btX (at_ : Int) : Xn := ⟨"BadText", [("at", .int at_)]⟩
theorem words_bad {T : List Nat} (hz : T.length < 900000) {ps : List Pc} {tail : List Nat} {c : Nat} {r : List Nat} (e : T = flatP ps ++ (tail ++ c :: r)) (hc : ChainR ps (tail ++ c :: r)) (hb : Blank tail) (hk : ps.length < 900) (n32 : c ≠ 32) (n10 : c ≠ 10) {th : PyData} {en mk : Int} (hmk : 0 ≤ mk)
    (ht : m_thing_at [.str (tx T), .int (flatP ps ++ tail).length] = .ok (.tuple [th, .int en, .int mk])) : m_words [.str (tx T)] = .exc (btX mk) := by
  have hz2 : T.length ≤ 16777216 := by omega
  have hst : stepsP ps ≤ (flatP ps).length := by
    clear e ht hk
    induction ps with
    | nil => exact Nat.le_refl _
    | cons x ps ih =>
      obtain ⟨_, hok, _, hr⟩ := hc
      have := ih hr
      obtain ⟨c, r', es, _⟩ := okHead hok
      simp only [stepsP, flatP, List.length_append]
      have : 1 ≤ x.th.s.length := by rw [es, List.length_cons]; omega
      omega
  have hl : T.length = (flatP ps).length + (tail.length + (r.length + 1)) := by rw [e]; simp
  obtain ⟨s3', s4', h⟩ := scan_pre T hz2 (tail ++ c :: r) ps [] [] (1000000 - stepsP ps) .un .un (by simpa using e) hc (by simp; omega)
  rw [show 1000000 - stepsP ps + stepsP ps = 1000000 by omega] at h
  obtain ⟨m, hm⟩ : ∃ m, 1000000 - stepsP ps = (m + 1) + tail.length := ⟨1000000 - stepsP ps - tail.length - 1, by omega⟩
  simp only [List.nil_append] at h
  rw [hm, scan_blanks T hz2 s3' s4' _ tail (flatP ps) (c :: r) (m + 1) e hb] at h
  have e2 : T = (flatP ps ++ tail) ++ c :: r := by rw [e]; simp
  have hat : atI T ((flatP ps ++ tail).length : Int) = some c := by rw [e2]; exact at_len
  have hlt : (((flatP ps ++ tail).length : Nat) : Int) < (T.length : Nat) := by rw [e2, List.length_append (as := flatP ps ++ tail), List.length_cons]; omega
  have hs : ∃ ds, m_scan [.str (tx T)] = .ok (.tuple [.list ds, .int mk]) := by
    refine ⟨duesP 0 ps, ?_⟩
    have h' : whileN t2_scan b1_scan 1000000 [.val (.str (tx T)), .own [], .val (.int 0), .un, .un] = .rt (.tuple [.list (duesP 0 ps), .int mk]) := by
      have h0 : whileN t2_scan b1_scan 1000000 [.val (.str (tx T)), .own [], .val (.int 0), .un, .un] = _ := h
      rw [h0, while_step (by unfold t2_scan; generalize flatP ps ++ tail = q at *; simp [hz2, hlt])]
      have hne1 : ¬ 32 = c := fun z => n32 z.symm
      have hne2 : ¬ 10 = c := fun z => n10 z.symm
      unfold b1_scan
      simp only [List.length_nil]
      generalize flatP ps ++ tail = q at *
      simp [hz2, hat, eqv_str_str, hne1, hne2, ht, bTup, bCons, bNil, hmk]
    unfold m_scan g_scan
    simp [w_scan_90, h']
  obtain ⟨ds, hs⟩ := hs
  unfold m_words g_words btX
  simp [hs, bTup, bCons, bNil, hmk]
/-! a sign that begins nothing -/
theorem mark_none {T : List Nat} {a : Nat} (ha : a ≤ T.length) : ∀ (ms : List (List Nat)) (s2 : Sl), (∀ m ∈ ms, (T.drop a).take m.length ≠ m) → ∃ s2', forL (bName 2) b1_mark_at (ms.map fun m => .str (tx m)) [.val (.str (tx T)), .val (.int a), s2] = .nx [.val (.str (tx T)), .val (.int a), s2']
  | [], s2, _ => ⟨s2, rfl⟩
  | m :: ms, s2, h => by
    have hst := starts3_tx T m a ha
    rw [decide_eq_false (h m List.mem_cons_self)] at hst
    obtain ⟨s2', ih⟩ := mark_none ha ms (.val (.str (tx m))) fun x hx => h x (List.mem_cons_of_mem _ hx)
    have one : b1_mark_at [.val (.str (tx T)), .val (.int a), .val (.str (tx m))] = .nx [.val (.str (tx T)), .val (.int a), .val (.str (tx m))] := by
      unfold b1_mark_at
      simp [dM_is, starts3D, hst]
    rw [List.map_cons, forL_name]
    simp only [List.set_cons_succ, List.set_cons_zero, one, turn_nx]
    exact ⟨s2', ih⟩
theorem sign_bad {p r : List Nat} {c : Nat} (hz : (p ++ c :: r).length ≤ 16777216) (h1 : letC c = false) (h2 : digC c = false) (h3 : c ≠ 95) (h4 : c ≠ 39) (h5 : ∀ m ∈ MKS, (c :: r).take m.length ≠ m) :
    ∃ th, m_thing_at [.str (tx (p ++ c :: r)), .int p.length] = .ok (.tuple [th, .int p.length, .int p.length]) := by
  have hat := at_len (p := p) (c := c) (r := r)
  obtain ⟨s2', hl⟩ := mark_none (T := p ++ c :: r) (a := p.length) (by rw [List.length_append]; omega) MKS .un (by rw [List.drop_left]; exact h5)
  have hm : m_mark_at [.str (tx (p ++ c :: r)), .int p.length] = .ok (.tuple [.tuple [.str (tx [109, 97, 114, 107]), .str (tx []), .int p.length], .int p.length, .int p.length]) := by
    unfold m_mark_at g_mark_at
    generalize p ++ c :: r = T at *
    simp [marks_are] at hl ⊢
    simp [hl]
  refine ⟨.tuple [.str (tx [109, 97, 114, 107]), .str (tx []), .int p.length], ?_⟩
  unfold m_thing_at g_thing_at
  generalize p ++ c :: r = T at *
  simp [hz, hat, let_sign, fig_sign, h1, h2, h3, h4, hm]
/-! a word that is none -/
theorem word_bad {p s r : List Nat} {c : Nat} {s' : List Nat} (hs : s = c :: s') (hh : letC c = true ∨ c = 95) (hw : ∀ x ∈ s, wordC x = true) (hr : stopB wordC r) (hz : (p ++ s ++ r).length < 900000)
    (hbad : 20 < s.length ∨ (resB s = false ∧ m_is_name [.str (tx s)] = .ok (.bool false))) : ∃ th en, m_thing_at [.str (tx (p ++ s ++ r)), .int p.length] = .ok (.tuple [th, .int en, .int p.length]) := by
  have hsl : s.length < 900000 := by rw [List.length_append, List.length_append] at hz; omega
  have hl := word_loop hw hr (by omega : (p ++ s ++ r).length ≤ 16777216) (n := 1000000) (by omega) .un
  have hc := cut_mid p s r
  have hz2 : (p ++ s ++ r).length ≤ 16777216 := by omega
  have hat : atI (p ++ s ++ r) (p.length : Int) = some c := by rw [hs, List.append_assoc]; exact at_len
  have hzs : s.length ≤ 16777216 := by omega
  have hwd : m_word_at [.str (tx (p ++ s ++ r)), .int p.length] = .ok (.tuple [.tuple [.str (tx [119, 111, 114, 100]), .str (tx s), .int p.length], .int ((p.length : Int) + (s.length : Int)), .int p.length]) := by
    unfold m_word_at g_word_at
    generalize p ++ s ++ r = T at *
    rcases hbad with hb | ⟨hb1, hb2⟩
    · have hlt : (20 : Int) < (s.length : Int) := by omega
      simp [w_word_at_45, hl, hlt, hc, hz2, hzs]
    · by_cases h20 : 20 < s.length
      · have hlt : (20 : Int) < (s.length : Int) := by omega
        simp [w_word_at_45, hl, hlt, hc, hz2, hzs]
      · have hlt : ¬ (20 : Int) < (s.length : Int) := by omega
        have hrs := res_is (word127 hw) (by omega)
        simp [w_word_at_45, hl, hlt, hc, hz2, hzs, hrs, hb1, hb2]
  refine ⟨.tuple [.str (tx [119, 111, 114, 100]), .str (tx s), .int p.length], (p.length : Int) + (s.length : Int), ?_⟩
  unfold m_thing_at g_thing_at
  generalize p ++ s ++ r = T at *
  rcases hh with hh | hh
  · simp [hz2, hat, let_sign, hh, hwd]
  · subst hh
    have q : letC 95 = false := by decide
    simp [hz2, hat, let_sign, q, hwd]
theorem number_bad {p s r : List Nat} (hw : ∀ x ∈ s, digC x = true) (h19 : 18 < s.length) (hr : stopB digC r) (hz : (p ++ s ++ r).length < 900000) : ∃ th en, m_thing_at [.str (tx (p ++ s ++ r)), .int p.length] = .ok (.tuple [th, .int en, .int p.length]) := by
  have hsl : s.length < 900000 := by rw [List.length_append, List.length_append] at hz; omega
  have hz2 : (p ++ s ++ r).length ≤ 16777216 := by omega
  have hl := number_loop hw hr hz2 (n := 1000000) (by omega)
  cases s with
  | nil => simp at h19
  | cons c s' =>
    have hat : atI (p ++ (c :: s') ++ r) (p.length : Int) = some c := by rw [List.append_assoc]; exact at_len
    have hc := hw c List.mem_cons_self
    have hc2 : letC c = false := by unfold digC at hc; simp at hc; unfold letC smallC capC; simp; omega
    have hc3 : ¬ c = 95 := by unfold digC at hc; simp at hc; omega
    have hnd : m_number_at [.str (tx (p ++ (c :: s') ++ r)), .int p.length] = .ok (.tuple [.tuple [.str (tx [110, 117, 109, 98, 101, 114]), .int 0, .int p.length], .int ((p.length : Int) + ((c :: s').length : Int)), .int p.length]) := by
      unfold m_number_at g_number_at
      have hlt : (18 : Int) < (p.length : Int) + ((c :: s').length : Int) - p.length := by omega
      have hlt2 : (18 : Int) < ((c :: s').length : Int) := by omega
      generalize c :: s' = s at *
      generalize p ++ s ++ r = T at *
      simp [w_number_at_53, hl, hlt, hlt2]
    refine ⟨.tuple [.str (tx [110, 117, 109, 98, 101, 114]), .int 0, .int p.length], (p.length : Int) + ((c :: s').length : Int), ?_⟩
    unfold m_thing_at g_thing_at
    generalize c :: s' = s at *
    generalize p ++ s ++ r = T at *
    simp [hz2, hat, let_sign, fig_sign, hc, hc2, hc3, hnd]
/-! texts that are none -/
theorem text_turn (a : Nat) {c : Nat} (hc : plainC c = true) (p r done : List Nat) (s4 : Sl) (hd : done.length < 200) (hz : (p ++ (dbl [c] ++ r)).length ≤ 16777216) :
    t2_text_at [.val (.str (tx (p ++ (dbl [c] ++ r)))), .val (.int a), .own (done.map fun c => .str (tx [c])), .val (.int p.length), s4] = .ok true ∧
    b1_text_at [.val (.str (tx (p ++ (dbl [c] ++ r)))), .val (.int a), .own (done.map fun c => .str (tx [c])), .val (.int p.length), s4] = .nx [.val (.str (tx (p ++ (dbl [c] ++ r)))), .val (.int a), .own ((done ++ [c]).map fun c => .str (tx [c])), .val (.int (p ++ dbl [c]).length), .val (.str (tx [c]))] := by
  have hst : done.length < 16777216 := by omega
  have hle : ¬ (200 : Int) < (done.length : Int) + 1 := by omega
  have e2 : (done ++ [c]).map (fun c => PyData.str (tx [c])) = done.map (fun c => PyData.str (tx [c])) ++ [.str (tx [c])] := by simp
  rw [e2]
  by_cases h39 : c = 39
  · subst h39
    have e1 : p ++ (dbl [39] ++ r) = p ++ 39 :: (39 :: r) := by simp [dbl]
    have h1 := at_len (p := p) (c := 39) (r := 39 :: r)
    have hcu := cut_next p 39 (39 :: r)
    have hlt : (p.length : Int) < ((p ++ 39 :: (39 :: r)).length : Nat) := by rw [List.length_append, List.length_cons]; omega
    rw [← e1] at h1 hcu hlt
    have e5 : (((p ++ dbl [39]).length : Nat) : Int) = (p.length : Int) + 1 + 1 := by simp [dbl]; omega
    rw [e5]
    generalize p ++ (dbl [39] ++ r) = T at *
    constructor
    · unfold t2_text_at; simp [hz, hlt]
    · unfold b1_text_at; simp [hz, h1, hcu, hst, hle]
  · have ed : dbl [c] = [c] := by simp [dbl, h39]
    have e1 : p ++ (dbl [c] ++ r) = p ++ c :: r := by rw [ed]; rfl
    have h1 := at_len (p := p) (c := c) (r := r)
    have hlt : (p.length : Int) < ((p ++ c :: r).length : Nat) := by rw [List.length_append, List.length_cons]; omega
    rw [← e1] at h1 hlt
    have e5 : (((p ++ dbl [c]).length : Nat) : Int) = (p.length : Int) + 1 := by rw [ed]; simp
    rw [e5]
    have hit := sign_text hc
    generalize p ++ (dbl [c] ++ r) = T at *
    constructor
    · unfold t2_text_at; simp [hz, hlt]
    · unfold b1_text_at; simp [hz, h1, h39, hit, hst, hle]
theorem text_run (a : Nat) (r : List Nat) : ∀ (u p done : List Nat) (n : Nat) (s4 : Sl), (∀ c ∈ u, plainC c = true) → done.length + u.length ≤ 200 → (p ++ (dbl u ++ r)).length ≤ 16777216 →
    ∃ s4', whileN t2_text_at b1_text_at (n + u.length) [.val (.str (tx (p ++ (dbl u ++ r)))), .val (.int a), .own (done.map fun c => .str (tx [c])), .val (.int p.length), s4] =
      whileN t2_text_at b1_text_at n [.val (.str (tx (p ++ (dbl u ++ r)))), .val (.int a), .own ((done ++ u).map fun c => .str (tx [c])), .val (.int (p ++ dbl u).length), s4']
  | [], p, done, n, s4, _, _, _ => ⟨s4, by simp [dbl]⟩
  | c :: u, p, done, n, s4, hu, hd, hz => by
    rw [List.length_cons] at hd
    have e0 : p ++ (dbl (c :: u) ++ r) = p ++ (dbl [c] ++ (dbl u ++ r)) := by rw [dbl_cons]; simp [dbl]
    have e1 : p ++ (dbl (c :: u) ++ r) = (p ++ dbl [c]) ++ (dbl u ++ r) := by rw [e0]; simp
    obtain ⟨t1, t2⟩ := text_turn a (hu c List.mem_cons_self) p (dbl u ++ r) done s4 (by omega) (by rw [← e0]; exact hz)
    obtain ⟨s4', ih⟩ := text_run a r u (p ++ dbl [c]) (done ++ [c]) n (.val (.str (tx [c]))) (fun x hx => hu x (List.mem_cons_of_mem _ hx)) (by rw [List.length_append, List.length_singleton]; omega) (by rw [← e1]; exact hz)
    refine ⟨s4', ?_⟩
    rw [List.length_cons, ← Nat.add_assoc, e0, while_step t1, t2, turn_nx]
    rw [← e1] at ih
    rw [← e0, ih]
    have e3 : done ++ [c] ++ u = done ++ c :: u := by simp
    have e4 : p ++ dbl [c] ++ dbl u = p ++ dbl (c :: u) := by rw [dbl_cons]; simp [dbl]
    rw [e3, e4]
theorem text_thing {p r : List Nat} {rd : Res PyData} (hz : (p ++ 39 :: r).length ≤ 16777216) (h : m_text_at [.str (tx (p ++ 39 :: r)), .int p.length] = rd) : m_thing_at [.str (tx (p ++ 39 :: r)), .int p.length] = rd := by
  have hat := at_len (p := p) (c := 39) (r := r)
  have q1 : letC 39 = false := by decide
  have q2 : digC 39 = false := by decide
  unfold m_thing_at g_thing_at
  generalize p ++ 39 :: r = T at *
  simp [hz, hat, let_sign, fig_sign, q1, q2, h]
  cases rd <;> rfl
/-- no end -/
theorem text_open {p u : List Nat} (hu : ∀ c ∈ u, plainC c = true) (hl : u.length ≤ 200) (hz : (p ++ 39 :: dbl u).length ≤ 16777216) : ∃ th en, m_thing_at [.str (tx (p ++ 39 :: dbl u)), .int p.length] = .ok (.tuple [th, .int en, .int p.length]) := by
  have e0 : p ++ 39 :: dbl u = (p ++ [39]) ++ (dbl u ++ []) := by simp
  obtain ⟨s4', h⟩ := text_run p.length [] u (p ++ [39]) [] (1000000 - u.length) .un hu (by simpa using hl) (by rw [← e0]; exact hz)
  rw [show 1000000 - u.length + u.length = 1000000 by omega] at h
  obtain ⟨m, hm⟩ : ∃ m, 1000000 - u.length = m + 1 := ⟨1000000 - u.length - 1, by omega⟩
  rw [hm, ← e0, List.map_nil, List.nil_append] at h
  have e3 : ((p ++ [39]).length : Int) = (p.length : Int) + 1 := by simp
  have hlt : ¬ (((p ++ [39] ++ dbl u).length : Nat) : Int) < ((p ++ 39 :: dbl u).length : Nat) := by simp
  refine ⟨.tuple [.str (tx [116, 101, 120, 116]), .str (tx []), .int p.length], ((p ++ [39] ++ dbl u).length : Nat), text_thing hz ?_⟩
  have h := h.trans (while_stop (by unfold t2_text_at; generalize p ++ [39] ++ dbl u = q at *; generalize p ++ 39 :: dbl u = T at *; simp [hz, hlt]))
  rw [e3] at h
  unfold m_text_at g_text_at
  generalize p ++ [39] ++ dbl u = q at *
  generalize p ++ 39 :: dbl u = T at *
  simp [w_text_at_61, h]
theorem dbl_plain {v : List Nat} (h : ∀ c ∈ v, c ≠ 39) : dbl v = v := by
  induction v with
  | nil => rfl
  | cons c v ih => rw [dbl_cons, if_neg (h c List.mem_cons_self), ih fun x hx => h x (List.mem_cons_of_mem _ hx)]; rfl
/-- a sign that may not be there -/
theorem text_sign {p v r : List Nat} {c : Nat} (hv : ∀ x ∈ v, plainC x = true ∧ x ≠ 39) (hl : v.length ≤ 200) (hc : plainC c = false) (h39 : c ≠ 39) (hz : (p ++ 39 :: (v ++ c :: r)).length ≤ 16777216) :
    ∃ th en, m_thing_at [.str (tx (p ++ 39 :: (v ++ c :: r))), .int p.length] = .ok (.tuple [th, .int en, .int (((p.length + 1 + v.length : Nat)) : Int)]) := by
  have hdv := dbl_plain (v := v) fun x hx => (hv x hx).2
  have e0 : p ++ 39 :: (v ++ c :: r) = (p ++ [39]) ++ (dbl v ++ c :: r) := by rw [hdv]; simp
  obtain ⟨s4', h⟩ := text_run p.length (c :: r) v (p ++ [39]) [] (1000000 - v.length) .un (fun x hx => (hv x hx).1) (by simpa using hl) (by rw [← e0]; exact hz)
  rw [show 1000000 - v.length + v.length = 1000000 by omega] at h
  obtain ⟨m, hm⟩ : ∃ m, 1000000 - v.length = m + 1 := ⟨1000000 - v.length - 1, by omega⟩
  rw [hm, ← e0, List.map_nil, List.nil_append, hdv] at h
  have e3 : ((p ++ [39]).length : Int) = (p.length : Int) + 1 := by simp
  have e4 : p ++ 39 :: (v ++ c :: r) = (p ++ [39] ++ v) ++ c :: r := by simp
  have hat : atI (p ++ 39 :: (v ++ c :: r)) ((p ++ [39] ++ v).length : Int) = some c := by rw [e4]; exact at_len
  have hlt : (((p ++ [39] ++ v).length : Nat) : Int) < ((p ++ 39 :: (v ++ c :: r)).length : Nat) := by rw [e4, List.length_append (as := p ++ [39] ++ v), List.length_cons]; omega
  have hlen : (p ++ [39] ++ v).length = p.length + 1 + v.length := by simp; omega
  have hit : m_is_text [.str (tx [c])] = .ok (.bool false) := by rw [is_text_is [c] (by simp)]; simp [hc]
  refine ⟨.tuple [.str (tx [116, 101, 120, 116]), .str (tx []), .int p.length], ((p ++ [39] ++ v).length : Nat), text_thing hz ?_⟩
  rw [← hlen]
  have h := h.trans (while_step (by unfold t2_text_at; generalize p ++ [39] ++ v = q at *; generalize p ++ 39 :: (v ++ c :: r) = T at *; simp [hz, hlt]))
  rw [e3] at h
  unfold b1_text_at at h
  unfold m_text_at g_text_at
  generalize p ++ [39] ++ v = q at *
  generalize p ++ 39 :: (v ++ c :: r) = T at *
  simp [hz, hat, h39, hit] at h
  simp [w_text_at_61, b1_text_at, h]
/-- too long -/
theorem text_long {p v r : List Nat} {c : Nat} (hv : ∀ x ∈ v, plainC x = true ∧ x ≠ 39) (hl : v.length = 200) (hc : plainC c = true) (h39 : c ≠ 39) (hz : (p ++ 39 :: (v ++ c :: r)).length ≤ 16777216) :
    ∃ th en, m_thing_at [.str (tx (p ++ 39 :: (v ++ c :: r))), .int p.length] = .ok (.tuple [th, .int en, .int p.length]) := by
  have hdv := dbl_plain (v := v) fun x hx => (hv x hx).2
  have e0 : p ++ 39 :: (v ++ c :: r) = (p ++ [39]) ++ (dbl v ++ c :: r) := by rw [hdv]; simp
  obtain ⟨s4', h⟩ := text_run p.length (c :: r) v (p ++ [39]) [] (1000000 - v.length) .un (fun x hx => (hv x hx).1) (by simp; omega) (by rw [← e0]; exact hz)
  rw [show 1000000 - v.length + v.length = 1000000 by omega] at h
  obtain ⟨m, hm⟩ : ∃ m, 1000000 - v.length = m + 1 := ⟨1000000 - v.length - 1, by omega⟩
  rw [hm, ← e0, List.map_nil, List.nil_append, hdv] at h
  have e3 : ((p ++ [39]).length : Int) = (p.length : Int) + 1 := by simp
  have e4 : p ++ 39 :: (v ++ c :: r) = (p ++ [39] ++ v) ++ c :: r := by simp
  have hat : atI (p ++ 39 :: (v ++ c :: r)) ((p ++ [39] ++ v).length : Int) = some c := by rw [e4]; exact at_len
  have hlt : (((p ++ [39] ++ v).length : Nat) : Int) < ((p ++ 39 :: (v ++ c :: r)).length : Nat) := by rw [e4, List.length_append (as := p ++ [39] ++ v), List.length_cons]; omega
  have hit := sign_text hc
  refine ⟨.tuple [.str (tx [116, 101, 120, 116]), .str (tx []), .int p.length], ((p ++ [39] ++ v).length : Nat), text_thing hz ?_⟩
  have h := h.trans (while_step (by unfold t2_text_at; generalize p ++ [39] ++ v = q at *; generalize p ++ 39 :: (v ++ c :: r) = T at *; simp [hz, hlt]))
  rw [e3] at h
  have one : b1_text_at [.val (.str (tx (p ++ 39 :: (v ++ c :: r)))), .val (.int p.length), .own (v.map fun c => .str (tx [c])), .val (.int (p ++ [39] ++ v).length), s4'] = .rt (.tuple [.tuple [.str (tx [116, 101, 120, 116]), .str (tx []), .int p.length], .int (p ++ [39] ++ v).length, .int p.length]) := by
    have z1 : v.length < 16777216 := by omega
    have z2 : (200 : Int) < (v.length : Int) + 1 := by omega
    unfold b1_text_at
    generalize p ++ [39] ++ v = q at *
    generalize p ++ 39 :: (v ++ c :: r) = T at *
    simp [hz, hat, h39, hit, z1, z2]
  rw [one, turn_rt] at h
  unfold m_text_at g_text_at
  generalize p ++ [39] ++ v = q at *
  generalize p ++ 39 :: (v ++ c :: r) = T at *
  simp [w_text_at_61, h]
/-! words that are none -/
theorem has_str (l : List Nat) : ∀ ms : List (List Nat), hasD (.str (tx l)) (ms.map fun m => .str (tx m)) = decide (l ∈ ms)
  | [] => rfl
  | m :: ms => by
    rw [List.map_cons, hasD_cons, has_str l ms, eqv_str_str]
    by_cases h : l = m
    · subst h; simp
    · have h2 : ¬ m = l := fun z => h z.symm
      simp [h, h2]
theorem resB_is (s : List Nat) : resB s = decide (s.map upC ∈ RESL) := by
  unfold resB
  rw [res_map, has_str]
theorem resl_cap : (RESL.all fun l => l.all capC && !decide (l.head? = some 81) && !decide (l ++ [88] ∈ RESL) && decide (1 ≤ l.length) && decide (l.length ≤ 13)) = true := by decide +kernel
theorem resl_of {l : List Nat} (h : l ∈ RESL) : (∀ c ∈ l, capC c = true) ∧ l.head? ≠ some 81 ∧ ¬ l ++ [88] ∈ RESL ∧ 1 ≤ l.length ∧ l.length ≤ 13 := by
  have f := List.all_eq_true.mp resl_cap l h
  simp only [Bool.and_eq_true, decide_eq_true_eq, Bool.not_eq_true', decide_eq_false_iff_not] at f
  obtain ⟨⟨⟨⟨f1, f2⟩, f3⟩, f4⟩, f5⟩ := f
  exact ⟨fun c hc => List.all_eq_true.mp f1 c hc, f2, f3, f4, f5⟩
theorem res_under {s : List Nat} (h : 95 ∈ s) : resB s = false := by
  rw [resB_is]
  refine decide_eq_false fun z => ?_
  have := (resl_of z).1 95 (by have : upC 95 ∈ s.map upC := List.mem_map_of_mem h; exact this)
  revert this; decide
theorem res_q {s : List Nat} (h : (s.map upC).head? = some 81) : resB s = false := by
  rw [resB_is]
  exact decide_eq_false fun z => (resl_of z).2.1 h
theorem name_loop_no (d : PyData) : ∀ (l : List Nat) (_ : ∀ x ∈ l, wordC x = true) (_ : ∃ x ∈ l, nameC x = false) (s : Sl), forL (bName 1) b1_is_name (l.map fun c => .str (tx [c])) [.val d, s] = .rt (.bool false)
  | [], _, ⟨x, hx, _⟩, s => by cases hx
  | c :: l, hw, hn, s => by
    rw [List.map_cons, forL_name]
    simp only [List.set_cons_succ, List.set_cons_zero]
    have hf := fig_sign c
    cases hc : nameC c with
    | true =>
      have hn' : ∃ x ∈ l, nameC x = false := by
        obtain ⟨x, hx, hxn⟩ := hn
        rcases List.mem_cons.mp hx with rfl | hx
        · rw [hc] at hxn; cases hxn
        · exact ⟨x, hx, hxn⟩
      have ih := name_loop_no d l (fun x hx => hw x (List.mem_cons_of_mem _ hx)) hn' (.val (.str (tx [c])))
      have one : b1_is_name [.val d, .val (.str (tx [c]))] = .nx [.val d, .val (.str (tx [c]))] := by
        unfold nameC smallC at hc
        unfold b1_is_name
        by_cases h1 : 97 ≤ c
        · by_cases h2 : c ≤ 122
          · have h3 : ¬ 122 < c := by omega
            simp [h1, h2, h3]
          · have h3 : 122 < c := by omega
            have h4 : digC c = true ∨ c = 95 := by simpa [h1, h2] using hc
            rcases h4 with h4 | h4
            · simp [h1, h3, hf, h4]
            · omega
        · have h4 : digC c = true ∨ c = 95 := by simpa [h1] using hc
          rcases h4 with h4 | h4
          · simp [h1, hf, h4]
          · subst h4; simp [hf]
      rw [one, turn_nx]
      exact ih
    | false =>
      have one : b1_is_name [.val d, .val (.str (tx [c]))] = .rt (.bool false) := by
        unfold nameC smallC at hc
        simp at hc
        obtain ⟨h1, h2, h3⟩ := hc
        unfold b1_is_name
        by_cases h4 : 97 ≤ c
        · have h5 : 122 < c := h1 h4
          simp [h4, h5, hf, h2, h3]
        · simp [h4, hf, h2, h3]
      rw [one, turn_rt]
theorem name_not {c : Nat} {s : List Nat} (hw : ∀ x ∈ c :: s, wordC x = true) (hl : (c :: s).length ≤ 20) (h : smallC c = false ∨ ∃ x ∈ c :: s, nameC x = false) : m_is_name [.str (tx (c :: s))] = .ok (.bool false) := by
  have hz : (c :: s).length ≤ 16777216 := by omega
  have h20 : ((c :: s).length : Int) ≤ 20 := by omega
  have h1i : (1 : Int) ≤ ((c :: s).length : Int) := by rw [List.length_cons]; omega
  have hat : atI (c :: s) 0 = some c := by rw [atI_zero]; rfl
  unfold m_is_name g_is_name
  cases hc : smallC c with
  | false =>
    unfold smallC at hc
    simp at hc
    generalize hT : c :: s = T at *
    by_cases h1 : 97 ≤ c
    · have h2 : 122 < c := hc h1
      simp [hz, h20, h1i, hat, h1, h2]
    · simp [hz, h20, h1i, hat, h1]
  | true =>
    have hn : ∃ x ∈ c :: s, nameC x = false := by
      rcases h with h | h
      · rw [hc] at h; cases h
      · exact h
    have e := name_loop_no (.str (tx (c :: s))) (c :: s) hw hn .un
    unfold smallC at hc
    simp at hc
    have hc3 : ¬ 122 < c := by omega
    generalize hT : c :: s = T at *
    simp [hz, h20, h1i, hat, hc, hc3, e]
structure BadW (s : List Nat) : Prop where
  hd : ∃ c r, s = c :: r ∧ (letC c = true ∨ c = 95)
  all : ∀ x ∈ s, wordC x = true
  le : s.length ≤ 20
  res : resB s = false
  nm : m_is_name [.str (tx s)] = .ok (.bool false)
theorem badw_of {c : Nat} {r : List Nat} (h1 : letC c = true ∨ c = 95) (h2 : ∀ x ∈ c :: r, wordC x = true) (h3 : (c :: r).length ≤ 20) (h4 : resB (c :: r) = false) (h5 : smallC c = false ∨ ∃ x ∈ c :: r, nameC x = false) : BadW (c :: r) :=
  ⟨⟨c, r, rfl, h1⟩, h2, h3, h4, name_not h2 h3 h5⟩
theorem name_word {c : Nat} (h : nameC c = true) : wordC c = true := by
  unfold nameC at h
  unfold wordC letC
  simp at h ⊢
  rcases h with h | h
  · exact .inl (.inl h)
  · exact .inr h
theorem cap_word {c : Nat} (h : capC c = true) : wordC c = true ∧ letC c = true ∧ smallC c = false ∧ nameC c = false := by
  unfold capC at h
  unfold wordC letC nameC smallC capC digC
  simp at h ⊢
  omega
theorem noword_is (xs : List Int) (hl : xs.length = 12) (hb : ∀ x ∈ xs, Big x) : ∃ s, m_law_no_word [.list (xs.map .int)] = .ok (.str (tx s)) ∧ BadW s := by
  obtain ⟨x1, h1, _⟩ := at_int xs 1 (by omega)
  obtain ⟨x2, h2, _⟩ := at_int xs 2 (by omega)
  obtain ⟨x3, h3, _⟩ := at_int xs 3 (by omega)
  obtain ⟨x4, h4, _⟩ := at_int xs 4 (by omega)
  have f2 := fmod_bound (a := x2) (b := 53) (by decide)
  obtain ⟨w, hw, hwm⟩ := res_at f2.1 f2.2
  obtain ⟨w1, w2, w3, w4, w5⟩ := resl_of hwm
  obtain ⟨c, r, e, q1, q2, q3⟩ := lword_is xs (by omega) hb
  have hcut : cutL (c :: r) none (some 10) = (c :: r).take 10 := cutL_to (c :: r) 10
  have hz1 : (c :: r).length ≤ 16777216 := by omega
  have hnl : ((c :: r).take 10).length ≤ 10 := List.length_take_le _ _
  have hnm : ∀ x ∈ (c :: r).take 10, nameC x = true := fun x hx => q2 x (List.mem_of_mem_take hx)
  generalize c :: r = cr at *
  generalize cr.take 10 = t at *
  have z1 : 1 + t.length ≤ 16777216 := by omega
  have z2 : t.length + 1 ≤ 16777216 := by omega
  have z3 : t.length ≤ 16777215 := by omega
  have z4 : t.length ≤ 16777214 := by omega
  have z5 : 1 + (t.length + 1) ≤ 16777216 := by omega
  have hq : ∀ x ∈ 113 :: t, nameC x = true := fun x hx => by
    rcases List.mem_cons.mp hx with rfl | hx
    · decide
    · exact hnm x hx
  have hqw : ∀ x ∈ 113 :: t, wordC x = true := fun x hx => name_word (hq x hx)
  have hwl : w.length ≤ 16777216 := by omega
  have hwl2 : w.length ≤ 16777215 := by omega
  by_cases c0 : x1.fmod 5 = 0
  · refine ⟨95 :: 113 :: t, ?_, badw_of (.inr rfl) (fun x hx => ?_) (by simp; omega) (res_under List.mem_cons_self) (.inl (by decide))⟩
    · unfold m_law_no_word g_law_no_word
      simp [h1, h2, lres_is, hw, e, hcut, hz1, c0, z1, z2, z3, z4, z5]
    · rcases List.mem_cons.mp hx with rfl | hx
      · decide
      · exact hqw x hx
  by_cases c1 : x1.fmod 5 = 1
  · have fl := fmod_bound (a := x3) (b := ((113 :: t).length : Int)) (by rw [List.length_cons]; omega)
    obtain ⟨k, hk⟩ : ∃ k : Nat, 1 + x3.fmod ((113 :: t).length : Int) = (k : Int) := ⟨(1 + x3.fmod ((113 :: t).length : Int)).toNat, by omega⟩
    have hk1 : 1 ≤ k := by omega
    have hk2 : k ≤ (113 :: t).length := by omega
    have f4 := fmod_bound (a := x4) (b := 5) (by decide)
    obtain ⟨y, hy, hym⟩ := atI_mem (xs := [65, 66, 67, 81, 90]) f4.1 f4.2
    have hyc : capC y = true := by
      have : ∀ z ∈ [65, 66, 67, 81, 90], capC z = true := by decide
      exact this y hym
    have k1 : cutL (113 :: t) none (some (k : Int)) = (113 :: t).take k := cutL_to _ k
    have k2 : cutL (113 :: t) (some (k : Int)) none = (113 :: t).drop k := cutL_from _ k
    obtain ⟨k', rfl⟩ : ∃ k', k = k' + 1 := ⟨k - 1, by omega⟩
    have ek : (113 :: t).take (k' + 1) = 113 :: t.take k' := rfl
    have ed : (113 :: t).drop (k' + 1) = t.drop k' := rfl
    rw [ek] at k1
    rw [ed] at k2
    have hlen : (t.take k').length + (t.drop k').length = t.length := by rw [List.length_take, List.length_drop]; omega
    have hmem : ∀ x ∈ 113 :: (t.take k' ++ y :: t.drop k'), wordC x = true := fun x hx => by
      rcases List.mem_cons.mp hx with rfl | hx
      · decide
      · rcases List.mem_append.mp hx with hx | hx
        · exact name_word (hnm x (List.mem_of_mem_take hx))
        · rcases List.mem_cons.mp hx with rfl | hx
          · exact (cap_word hyc).1
          · exact name_word (hnm x (List.mem_of_mem_drop hx))
    refine ⟨113 :: (t.take k' ++ y :: t.drop k'), ?_, badw_of (.inl (by decide)) hmem (by simp only [List.length_cons, List.length_append]; omega) (res_q rfl) (.inr ⟨y, by simp, (cap_word hyc).2.2.2⟩)⟩
    have hlt : (113 :: t).length ≤ 16777216 := by rw [List.length_cons]; omega
    have hne : ¬ ((113 :: t).length : Int) = 0 := by rw [List.length_cons]; omega
    have y1 : (t.take k').length + 1 + 1 ≤ 16777216 := by omega
    have y2 : (t.take k').length ≤ 16777214 := by omega
    have y3 : (t.take k').length + 1 + 1 + (t.drop k').length ≤ 16777216 := by omega
    have y4 : (t.take k').length + (1 + 1) + (t.drop k').length ≤ 16777216 := by omega
    generalize t.take k' = a1 at *
    generalize t.drop k' = a2 at *
    rw [List.length_cons] at hk hne hlt
    have hk' : 1 + x3.fmod ((t.length : Int) + 1) = (((k' + 1 : Nat)) : Int) := by rw [← hk]; rfl
    have hne' : ¬ ((t.length : Int) + 1) = 0 := by omega
    rw [show (((k' + 1 : Nat)) : Int) = (k' : Int) + 1 by omega] at hk' k1 k2
    unfold m_law_no_word g_law_no_word
    simp [h1, h2, h3, h4, lres_is, hw, e, hcut, hz1, c0, c1, z1, z2, z3, z4, hk', hne', k1, k2, hy, y1, y2, y3, y4]
  by_cases c2 : x1.fmod 5 = 2
  · cases w with
    | nil => simp at w4
    | cons a w' =>
      have ha := w1 a List.mem_cons_self
      refine ⟨a :: (w' ++ [88]), ?_, badw_of (.inl (cap_word ha).2.1) (fun x hx => ?_) (by simp only [List.length_cons, List.length_append, List.length_nil] at w5 ⊢; omega) ?_ (.inl (cap_word ha).2.2.1)⟩
      · unfold m_law_no_word g_law_no_word
        have hwl3 : w'.length ≤ 16777214 := by rw [List.length_cons] at hwl; rw [List.length_cons] at hwl2; omega
        simp [h1, h2, lres_is, hw, e, hcut, hz1, c0, c1, c2, z1, z2, z3, z4, hwl3]
      · rcases List.mem_cons.mp hx with rfl | hx
        · exact (cap_word ha).1
        · rcases List.mem_append.mp hx with hx | hx
          · exact (cap_word (w1 x (List.mem_cons_of_mem _ hx))).1
          · rw [List.mem_singleton.mp hx]; decide
      · rw [resB_is]
        refine decide_eq_false fun z => w3 ?_
        have e1 : (a :: (w' ++ [88])).map upC = (a :: w') ++ [88] := by
          have := (cased_self w1).1
          rw [show a :: (w' ++ [88]) = (a :: w') ++ [88] from rfl, List.map_append, this]
          rfl
        rw [e1] at z
        exact z
  by_cases c3 : x1.fmod 5 = 3
  · refine ⟨81 :: 113 :: t, ?_, badw_of (.inl (by decide)) (fun x hx => ?_) (by simp; omega) (res_q rfl) (.inl (by decide))⟩
    · unfold m_law_no_word g_law_no_word
      simp [h1, h2, lres_is, hw, e, hcut, hz1, c0, c1, c2, c3, z1, z2, z3, z4, z5]
    · rcases List.mem_cons.mp hx with rfl | hx
      · decide
      · exact hqw x hx
  · cases w with
    | nil => simp at w4
    | cons a w' =>
      have ha := w1 a List.mem_cons_self
      have k1 : cutL (a :: w') none (some 1) = [a] := cutL_to (a :: w') 1
      have k2 : cutL (a :: w') (some 1) none = w' := cutL_from (a :: w') 1
      refine ⟨a :: 95 :: w', ?_, badw_of (.inl (cap_word ha).2.1) (fun x hx => ?_) (by simp only [List.length_cons] at w5 ⊢; omega) (res_under (by simp)) (.inl (cap_word ha).2.2.1)⟩
      · unfold m_law_no_word g_law_no_word
        have hwl3 : w'.length ≤ 16777214 := by rw [List.length_cons] at hwl; rw [List.length_cons] at hwl2; omega
        have hwl4 : 2 + w'.length ≤ 16777216 := by omega
        have hwl5 : w'.length ≤ 16777215 := by omega
        have hwl6 : 1 + 1 + w'.length ≤ 16777216 := by omega
        simp [h1, h2, lres_is, hw, e, hcut, hz1, c0, c1, c2, c3, z1, z2, z3, z4, k1, k2, hwl3, hwl4, hwl5, hwl6]
      · rcases List.mem_cons.mp hx with rfl | hx
        · exact (cap_word ha).1
        · rcases List.mem_cons.mp hx with rfl | hx
          · decide
          · exact (cap_word (w1 x (List.mem_cons_of_mem _ hx))).1
/-! mistakes -/
def BehOk (off : Int) (b : List Nat) : Prop := (b = [] ∨ ∃ c r, b = c :: r ∧ (c = 32 ∨ c = 10)) ∧ (off < 0 → b = [])
theorem beh_stop {f : Nat → Bool} {off : Int} {b : List Nat} (h : BehOk off b) (h1 : f 32 = false) (h2 : f 10 = false) : stopB f b := fun c hc => by
  rcases h.1 with rfl | ⟨d, r, rfl, hd⟩
  · cases hc
  · rw [List.head?_cons] at hc
    cases hc
    rcases hd with rfl | rfl
    · exact h1
    · exact h2
structure Mist (m : List Nat) (off : Int) : Prop where
  hd : ∃ c r, m = c :: r ∧ c ≠ 32 ∧ c ≠ 10
  le : m.length ≤ 300
  lo : -1 ≤ off
  no : ∀ p b, BehOk off b → (p ++ m ++ b).length < 900000 → ∃ th en, m_thing_at [.str (tx (p ++ m ++ b)), .int p.length] = .ok (.tuple [th, .int en, .int ((p.length : Int) + (if off > 0 then off else 0))])
theorem mist_sign {c : Nat} (h : c ∈ [33, 34, 35, 36, 38, 58, 59, 63, 64, 91, 92, 93, 94, 96, 123, 125, 126, 124, 9]) : Mist [c] 0 := by
  have f : ∀ c ∈ [33, 34, 35, 36, 38, 58, 59, 63, 64, 91, 92, 93, 94, 96, 123, 125, 126, 124, 9], letC c = false ∧ digC c = false ∧ c ≠ 95 ∧ c ≠ 39 ∧ c ≠ 32 ∧ c ≠ 10 ∧ (c = 124 ∨ ∀ m ∈ MKS, m.head? ≠ some c) := by decide
  obtain ⟨f1, f2, f3, f4, f5, f6, f7⟩ := f c h
  refine ⟨⟨c, [], rfl, f5, f6⟩, by simp, by decide, fun p b hb hz => ?_⟩
  have e : p ++ [c] ++ b = p ++ c :: b := by simp
  rw [e] at hz ⊢
  obtain ⟨th, ht⟩ := sign_bad (p := p) (r := b) (c := c) (by omega) f1 f2 f3 f4 (fun m hm z => by
    rcases f7 with rfl | f7
    · have : ∀ m ∈ MKS, m.head? = some 124 → m = [124, 124] := by decide
      cases m with
      | nil => revert hm; decide
      | cons a m' =>
        have ha : a = 124 := by
          have := congrArg List.head? z
          rw [List.length_cons] at this
          simpa using this.symm
        subst ha
        have e2 := this _ hm rfl
        rw [e2] at z
        rcases hb.1 with rfl | ⟨d, r, rfl, hd⟩
        · simp at z
        · simp at z
          omega
    · cases m with
      | nil => revert hm; decide
      | cons a m' =>
        have ha : a = c := by
          have := congrArg List.head? z
          rw [List.length_cons] at this
          simpa using this.symm
        exact f7 _ hm (by rw [ha]; rfl))
  exact ⟨th, p.length, by simpa using ht⟩
theorem mist_word {s : List Nat} (h1 : ∃ c r, s = c :: r ∧ (letC c = true ∨ c = 95)) (h2 : ∀ x ∈ s, wordC x = true) (h3 : s.length ≤ 300) (h4 : 20 < s.length ∨ (resB s = false ∧ m_is_name [.str (tx s)] = .ok (.bool false))) : Mist s 0 := by
  obtain ⟨c, r, e, hc⟩ := h1
  refine ⟨⟨c, r, e, ?_, ?_⟩, h3, by decide, fun p b hb hz => ?_⟩
  · rintro rfl; revert hc; decide
  · rintro rfl; revert hc; decide
  · obtain ⟨th, en, ht⟩ := word_bad e hc h2 (beh_stop hb (by decide) (by decide)) hz h4
    exact ⟨th, en, by simpa using ht⟩
theorem mist_number {s : List Nat} (h1 : ∀ x ∈ s, digC x = true) (h2 : 18 < s.length) (h3 : s.length ≤ 300) : Mist s 0 := by
  refine ⟨?_, h3, by decide, fun p b hb hz => ?_⟩
  · cases s with
    | nil => simp at h2
    | cons c r =>
      have hc := h1 c List.mem_cons_self
      refine ⟨c, r, rfl, ?_, ?_⟩ <;> (rintro rfl; revert hc; decide)
  · obtain ⟨th, en, ht⟩ := number_bad h1 h2 (beh_stop hb (by decide) (by decide)) hz
    exact ⟨th, en, by simpa using ht⟩
theorem mist_open {u : List Nat} (h1 : ∀ x ∈ u, plainC x = true) (h2 : u.length ≤ 100) : Mist (39 :: dbl u) (-1) := by
  have := dbl_len u
  refine ⟨⟨39, dbl u, rfl, by decide, by decide⟩, by rw [List.length_cons]; omega, by decide, fun p b hb hz => ?_⟩
  have hb2 := hb.2 (by decide)
  subst hb2
  rw [List.append_nil] at hz ⊢
  obtain ⟨th, en, ht⟩ := text_open (p := p) h1 (by omega) (by omega)
  exact ⟨th, en, by simpa using ht⟩
theorem mist_inner {v w : List Nat} {c : Nat} (h1 : ∀ x ∈ v, plainC x = true ∧ x ≠ 39) (h2 : v.length ≤ 200) (h3 : w.length ≤ 90) (hc : c = 10 ∨ c = 9) : Mist (39 :: (v ++ c :: (w ++ [39]))) (1 + (v.length : Int)) := by
  refine ⟨⟨39, _, rfl, by decide, by decide⟩, by simp; omega, by omega, fun p b hb hz => ?_⟩
  have e : p ++ 39 :: (v ++ c :: (w ++ [39])) ++ b = p ++ 39 :: (v ++ c :: (w ++ [39] ++ b)) := by simp
  rw [e] at hz ⊢
  obtain ⟨th, en, ht⟩ := text_sign (p := p) (r := w ++ [39] ++ b) (c := c) h1 h2 (by rcases hc with rfl | rfl <;> decide) (by rcases hc with rfl | rfl <;> decide) (by omega)
  refine ⟨th, en, ?_⟩
  have h0 : (1 + (v.length : Int)) > 0 := by omega
  have e5 : (((p.length + 1 + v.length : Nat)) : Int) = (p.length : Int) + (1 + (v.length : Int)) := by omega
  rw [ht, if_pos h0, e5]
theorem mist_long {n c : Nat} (h1 : plainC c = true) (h2 : c ≠ 39) (h3 : 201 ≤ n) (h4 : n ≤ 298) : Mist (39 :: (List.replicate n c ++ [39])) 0 := by
  refine ⟨⟨39, _, rfl, by decide, by decide⟩, by simp; omega, by decide, fun p b hb hz => ?_⟩
  obtain ⟨k, rfl⟩ : ∃ k, n = 200 + (k + 1) := ⟨n - 201, by omega⟩
  have e : p ++ 39 :: (List.replicate (200 + (k + 1)) c ++ [39]) ++ b = p ++ 39 :: (List.replicate 200 c ++ c :: (List.replicate k c ++ [39] ++ b)) := by
    rw [← List.replicate_append_replicate (n := 200) (m := k + 1), List.replicate_succ (n := k)]; simp only [List.append_assoc, List.cons_append, List.nil_append]
  rw [e] at hz ⊢
  have hl : (List.replicate 200 c).length = 200 := List.length_replicate
  have hm : ∀ x ∈ List.replicate 200 c, plainC x = true ∧ x ≠ 39 := fun x hx => by rw [(List.mem_replicate.mp hx).2]; exact ⟨h1, h2⟩
  generalize List.replicate 200 c = v at *
  obtain ⟨th, en, ht⟩ := text_long (p := p) (r := List.replicate k c ++ [39] ++ b) hm hl h1 h2 (by omega)
  exact ⟨th, en, by simpa using ht⟩
theorem replS_dash : ∀ (x : List Nat) (s : Nat) (c : Nat), c ∈ PySem.StrLaws.replS [39] [45] s x → c ≠ 39
  | [], s, c, h => by unfold PySem.StrLaws.replS at h; cases h
  | a :: x, 0, c, h => by
    unfold PySem.StrLaws.replS at h
    split at h
    · rcases List.mem_append.mp h with h | h
      · rw [List.mem_singleton.mp h]; decide
      · exact replS_dash x _ c h
    · rename_i hn
      rcases List.mem_cons.mp h with h | h
      · rintro rfl
        exact hn (by rw [← h]; rfl)
      · exact replS_dash x _ c h
  | a :: x, s + 1, c, h => by
    unfold PySem.StrLaws.replS at h
    exact replS_dash x s c h
theorem replS_len : ∀ (x : List Nat) (s : Nat), (PySem.StrLaws.replS [39] [45] s x).length ≤ x.length
  | [], s => by unfold PySem.StrLaws.replS; simp
  | a :: x, 0 => by
    unfold PySem.StrLaws.replS
    split
    · have := replS_len x ([39].length - 1)
      have h45 : [45].length = 1 := rfl
      rw [List.length_append, List.length_cons (as := x)]
      omega
    · have := replS_len x 0
      simp only [List.length_cons] at *
      omega
  | a :: x, s + 1 => by
    unfold PySem.StrLaws.replS
    have := replS_len x s
    rw [List.length_cons]; omega
theorem repl_dash {x : List Nat} (hx : ∀ c ∈ x, plainC c = true) : ∃ l, Txt.replace (tx x) (tx [39]) (tx [45]) = tx l ∧ (∀ c ∈ l, plainC c = true ∧ c ≠ 39) ∧ l.length ≤ x.length := by
  have e := PySem.StrLaws.replace_list (x := tx x) (y := tx [39]) (z := tx [45]) (by decide)
  rw [tx_cps, tx_cps, tx_cps] at e
  obtain ⟨l, hl⟩ := tx_of (Txt.replace (tx x) (tx [39]) (tx [45]))
  rw [hl, tx_cps] at e
  refine ⟨l, hl, fun c hc => ?_, ?_⟩
  · rw [e] at hc
    refine ⟨?_, replS_dash x 0 c hc⟩
    rcases replS_mem x 0 c hc with h | h
    · exact hx c h
    · rw [List.mem_singleton.mp h]; decide
  · rw [e]; exact replS_len x 0
theorem dbl_plainC {u : List Nat} (h : ∀ c ∈ u, plainC c = true) : ∀ c ∈ dbl u, plainC c = true := fun c hc => by
  unfold dbl at hc
  obtain ⟨x, hx, hcx⟩ := List.mem_flatMap.mp hc
  split at hcx
  · rename_i h39
    subst h39
    simp at hcx
    rw [hcx]; exact h 39 hx
  · rw [List.mem_singleton.mp hcx]; exact h x hx
theorem lmist_is (xs : List Int) (hl : xs.length = 12) (hb : ∀ x ∈ xs, Big x) : ∃ m off, m_law_mistake [.list (xs.map .int)] = .ok (.list [.str (tx m), .int off]) ∧ Mist m off := by
  obtain ⟨x0, h0, _⟩ := at_int xs 0 (by omega)
  obtain ⟨x1, h1, _⟩ := at_int xs 1 (by omega)
  obtain ⟨x2, h2, _⟩ := at_int xs 2 (by omega)
  obtain ⟨x3, h3, _⟩ := at_int xs 3 (by omega)
  have w0 := fmod_bound (a := x0) (b := 8) (by decide)
  by_cases c2 : x0.fmod 8 < 2
  · have f := fmod_bound (a := x1) (b := 19) (by decide)
    obtain ⟨c, hc, hcm⟩ := atI_mem (xs := [33, 34, 35, 36, 38, 58, 59, 63, 64, 91, 92, 93, 94, 96, 123, 125, 126, 124, 9]) f.1 f.2
    refine ⟨[c], 0, ?_, mist_sign hcm⟩
    unfold m_law_mistake g_law_mistake
    simp [h0, h1, c2, m_law_odd_signs, g_law_odd_signs, hc]
  by_cases c3 : x0.fmod 8 = 2
  · obtain ⟨s, hs, hw⟩ := noword_is xs hl hb
    refine ⟨s, 0, ?_, mist_word hw.hd hw.all (by have := hw.le; omega) (.inr ⟨hw.res, hw.nm⟩)⟩
    unfold m_law_mistake g_law_mistake
    simp [h0, c2, c3, hs]
  by_cases c4 : x0.fmod 8 = 3
  · have f := fmod_bound (a := x1) (b := 20) (by decide)
    have f2 := fmod_bound (a := x2) (b := 40) (by decide)
    obtain ⟨c, hc, hcm⟩ := atI_mem (xs := [97, 98, 99, 100, 101, 102, 103, 104, 105, 106, 107, 108, 109, 110, 111, 112, 113, 114, 115, 116]) f.1 f.2
    have hl2 : ∀ c ∈ [97, 98, 99, 100, 101, 102, 103, 104, 105, 106, 107, 108, 109, 110, 111, 112, 113, 114, 115, 116], letC c = true := by decide
    have hcl := hl2 c hcm
    obtain ⟨n, hn⟩ : ∃ n : Nat, 21 + x2.fmod 40 = (n : Int) := ⟨(21 + x2.fmod 40).toNat, by omega⟩
    have n1 : n ≤ 1000 := by omega
    refine ⟨List.replicate n c, 0, ?_, mist_word ?_ (fun x hx => ?_) (by rw [List.length_replicate]; omega) (.inl (by rw [List.length_replicate]; omega))⟩
    · unfold m_law_mistake g_law_mistake
      simp [h0, h1, h2, c2, c3, c4, hc, hn, n1]
    · obtain ⟨k, rfl⟩ : ∃ k, n = k + 1 := ⟨n - 1, by omega⟩
      exact ⟨c, List.replicate k c, List.replicate_succ, .inl hcl⟩
    · rw [(List.mem_replicate.mp hx).2]; unfold wordC; rw [hcl]; rfl
  by_cases c5 : x0.fmod 8 = 4
  · have f := fmod_bound (a := x1) (b := 10) (by decide)
    have f2 := fmod_bound (a := x2) (b := 42) (by decide)
    obtain ⟨c, hc, hcm⟩ := atI_mem (xs := [48, 49, 50, 51, 52, 53, 54, 55, 56, 57]) f.1 f.2
    have hl2 : ∀ c ∈ [48, 49, 50, 51, 52, 53, 54, 55, 56, 57], digC c = true := by decide
    have hcl := hl2 c hcm
    obtain ⟨n, hn⟩ : ∃ n : Nat, 19 + x2.fmod 42 = (n : Int) := ⟨(19 + x2.fmod 42).toNat, by omega⟩
    have n1 : n ≤ 1000 := by omega
    refine ⟨List.replicate n c, 0, ?_, mist_number (fun x hx => ?_) (by rw [List.length_replicate]; omega) (by rw [List.length_replicate]; omega)⟩
    · unfold m_law_mistake g_law_mistake
      simp [h0, h1, h2, c2, c3, c4, c5, hc, hn, n1]
    · rw [(List.mem_replicate.mp hx).2]; exact hcl
  have f30 := fmod_bound (a := x1) (b := 30) (by decide)
  obtain ⟨n, hn⟩ : ∃ n : Nat, x1.fmod 30 = (n : Int) := ⟨(x1.fmod 30).toNat, by omega⟩
  have hcut : cutD (xs.map PyData.int) (some 3) none = (xs.drop 3).map .int := by rw [List.map_drop, cutD_is]; exact cutL_from _ 3
  obtain ⟨u, hu1, hu2, hu3⟩ := text_is (xs.drop 3) n (fun z => by have := congrArg List.length z; rw [List.length_drop] at this; simp at this; omega) (by rw [List.length_drop]; omega) (by omega)
  rw [List.map_drop] at hu1 hcut
  have hdl := dbl_len u
  have r1 : replD (tx [39]) (tx [39, 39]) (.str (tx u)) = some (.str (tx (dbl u))) := by rw [replD_tx _ _ _ (by simp only [List.length_cons, List.length_nil]; omega), repl_dbl]
  have z1 : 1 + (dbl u).length ≤ 16777216 := by omega
  have z2 : (dbl u).length + 1 ≤ 16777216 := by omega
  have z3 : (dbl u).length ≤ 16777215 := by omega
  by_cases c6 : x0.fmod 8 = 5
  · refine ⟨39 :: dbl u, -1, ?_, mist_open hu3 (by omega)⟩
    unfold m_law_mistake g_law_mistake
    simp [h0, h1, c2, c3, c4, c5, c6, hn, hcut, hu1, r1, z1, z2, z3]
  by_cases c7 : x0.fmod 8 = 6
  · obtain ⟨pl, e1, e2, e3⟩ := repl_dash (dbl_plainC hu3)
    have r2 : replD (tx [39]) (tx [45]) (.str (tx (dbl u))) = some (.str (tx pl)) := by rw [replD_tx _ _ _ (by simp only [List.length_cons, List.length_nil]; omega), e1]
    have f1 := fmod_bound (a := x2) (b := (pl.length : Int) + 1) (by omega)
    obtain ⟨k, hk⟩ : ∃ k : Nat, x2.fmod ((pl.length : Int) + 1) = (k : Int) := ⟨(x2.fmod ((pl.length : Int) + 1)).toNat, by omega⟩
    have hk2 : k ≤ pl.length := by omega
    have f3 := fmod_bound (a := x3) (b := 2) (by decide)
    obtain ⟨c, hc, hcc⟩ : ∃ c, atI [PyData.str (tx [10]), .str (tx [9])] (x3.fmod 2) = some (.str (tx [c])) ∧ (c = 10 ∨ c = 9) := by
      have hk : x3.fmod 2 = 0 ∨ x3.fmod 2 = 1 := by omega
      rcases hk with h | h
      · exact ⟨10, by rw [h]; rfl, .inl rfl⟩
      · exact ⟨9, by rw [h]; rfl, .inr rfl⟩
    have k1 : cutL pl none (some (k : Int)) = pl.take k := cutL_to _ k
    have k2 : cutL pl (some (k : Int)) none = pl.drop k := cutL_from _ k
    have l1 : (pl.take k).length = k := by rw [List.length_take]; omega
    have l2 : (pl.drop k).length ≤ 60 := by rw [List.length_drop]; omega
    have hv : ∀ x ∈ pl.take k, plainC x = true ∧ x ≠ 39 := fun x hx => e2 x (List.mem_of_mem_take hx)
    refine ⟨39 :: (pl.take k ++ c :: (pl.drop k ++ [39])), 1 + ((pl.take k).length : Int), ?_, mist_inner hv (by omega) (by omega) hcc⟩
    have y0 : pl.length ≤ 16777216 := by omega
    have y1 : ¬ (pl.length : Int) + 1 = 0 := by omega
    rw [l1]
    generalize pl.take k = a1 at *
    generalize pl.drop k = a2 at *
    have y2 : 1 + a1.length ≤ 16777216 := by omega
    have y3 : a1.length + 1 ≤ 16777216 := by omega
    have y4 : 1 + a1.length + 1 ≤ 16777216 := by omega
    have y5 : a1.length + 1 + 1 ≤ 16777216 := by omega
    have y6 : a1.length ≤ 16777215 := by omega
    have y7 : a1.length ≤ 16777214 := by omega
    have y8 : a1.length + 1 + 1 + a2.length ≤ 16777216 := by omega
    have y9 : a1.length + (1 + 1) + a2.length ≤ 16777216 := by omega
    have y10 : a1.length + (1 + (a2.length + 1)) ≤ 16777216 := by omega
    have y11 : a1.length + (a2.length + 1) + 1 + 1 ≤ 16777216 := by omega
    have y12 : a1.length + (a2.length + 1) + 1 ≤ 16777215 := by omega
    have y13 : a1.length + (a2.length + 1) ≤ 16777214 := by omega
    have y14 : a1.length + 2 + a2.length ≤ 16777216 := by omega
    have y15 : a1.length + (a2.length + 1) + 1 ≤ 16777216 := by omega
    unfold m_law_mistake g_law_mistake
    simp [h0, h1, h2, h3, c2, c3, c4, c5, c6, c7, hn, hcut, hu1, r1, r2, y0, y1, hk, k1, k2, hc, y2, y3, y4, y5, y6, y7, y8, y9, y10, y11, y12, y13, y14, y15]
  · have f := fmod_bound (a := x1) (b := 7) (by decide)
    have f2 := fmod_bound (a := x2) (b := 60) (by decide)
    obtain ⟨c, hc, hcm⟩ := atI_mem (xs := [97, 98, 99, 126, 32, 95, 57]) f.1 f.2
    have hl2 : ∀ c ∈ [97, 98, 99, 126, 32, 95, 57], plainC c = true ∧ c ≠ 39 := by decide
    obtain ⟨hcl, hcn⟩ := hl2 c hcm
    obtain ⟨q, hq⟩ : ∃ q : Nat, 201 + x2.fmod 60 = (q : Int) := ⟨(201 + x2.fmod 60).toNat, by omega⟩
    have n1 : q ≤ 1000 := by omega
    refine ⟨39 :: (List.replicate q c ++ [39]), 0, ?_, mist_long hcl hcn (by omega) (by omega)⟩
    have y1 : 1 + q ≤ 16777216 := by omega
    have y2 : q + 1 ≤ 16777216 := by omega
    have y3 : q ≤ 16777215 := by omega
    have y4 : q ≤ 16777214 := by omega
    have y5 : 1 + q + 1 ≤ 16777216 := by omega
    have y6 : q + 1 + 1 ≤ 16777216 := by omega
    unfold m_law_mistake g_law_mistake
    simp [h0, h1, h2, c2, c3, c4, c5, c6, c7, hn, hcut, hu1, r1, hc, hq, n1, y1, y2, y3, y4, y5, y6]
theorem refused_is {T : List Nat} {mk : Int} (h : m_words [.str (tx T)] = .exc (btX mk)) : m_law_refused [.str (tx T), .int mk] = .ok (.bool true) := by
  have h1 : b1_law_refused [.val (.str (tx T)), .val (.int mk), .un] = .exc (btX mk) [.val (.str (tx T)), .val (.int mk), .un] := by
    unfold b1_law_refused
    simp [h]
  have h3 : ∀ a : Addr, h2_law_refused a (btX mk) ([.val (.str (tx T)), .val (.int mk), .un].set 2 (.adr a)) = .rt (.bool true) := fun a => by
    unfold h2_law_refused btX
    simp
  have := gTryR_rt (tab := [("BadText", true)]) (i := 2) (g1 := b1_law_refused) (g2 := h2_law_refused) h1 (by simp [btX]) h3
  unfold m_law_refused g_law_refused
  simp [this]
/-! the law -/
theorem open_chainR : ∀ {ps : List Pc} {t rest : List Nat}, OpenC ps → Blank t → (ps = [] ∨ t ≠ []) → ChainR ps (t ++ rest)
  | [], t, rest, _, _, _ => True.intro
  | p :: r, t, rest, ⟨h1, h2, h3, h4⟩, h, ht => by
    have htn : t ≠ [] := by
      rcases ht with z | z
      · cases z
      · exact z
    refine ⟨h1, h2, ?_, open_chainR h4 h (.inr htn)⟩
    by_cases hr : r = []
    · subst hr
      cases t with
      | nil => exact absurd rfl htn
      | cons c t' =>
        intro d hd
        exact blank_stop h2 h d (by rw [List.head?_cons]; simpa [flatP] using hd)
    · rcases h3 with h3 | h3
      · exact absurd h3 hr
      · intro c hc
        rw [(flatP_head h4 hr _).1] at hc
        exact h3 c hc
def P1 (ns : List Int) (k : Nat) (ρ : Sls) : Prop := ∃ ps tl s3 s4, ρ = [.val (.list (ns.map .int)), .val (.str (tx (flatP ps ++ tl))), .val (.int (ps.length : Nat)), s3, s4, .un, .un, .un] ∧ OpenC ps ∧ Blank tl ∧ (ps = [] ∨ tl ≠ []) ∧ (flatP ps ++ tl).length ≤ 1910 ∧ ps.length ≤ k
theorem blankS {i : Int} (h0 : 0 ≤ i) (h1 : i < 3) : ∃ sp, atI [PyData.str (tx [32]), .str (tx [10]), .str (tx [32, 32])] i = some (.str (tx sp)) ∧ Blank sp ∧ sp.length ≤ 3 ∧ sp ≠ [] := by
  have hk : i = 0 ∨ i = 1 ∨ i = 2 := by omega
  rcases hk with h | h | h
  · exact ⟨[32], by rw [h]; rfl, by simp [Blank], by decide, by simp⟩
  · exact ⟨[10], by rw [h]; rfl, by simp [Blank], by decide, by simp⟩
  · exact ⟨[32, 32], by rw [h]; rfl, by simp [Blank], by decide, by simp⟩
theorem turn1 (ns : List Int) (k : Nat) (hk : k ≤ 60) (ρ : Sls) (h : P1 ns k ρ) : ∃ ρ2, b1_law (ρ.set 3 (.val (.int (k : Int)))) = .nx ρ2 ∧ P1 ns (k + 1) ρ2 := by
  obtain ⟨ps, tl, s3, s4, rfl, ho, hb, ht, hz, hp⟩ := h
  obtain ⟨c, hc⟩ := cell_is ns (2 + k)
  rw [show ((2 + k : Nat) : Int) = 2 + (k : Int) by omega] at hc
  obtain ⟨xs, hx, hl, hbig⟩ := draws_is c 11 (by decide)
  have hx' : m_law_draws [.int c, .int 11] = .ok (.list (xs.map .int)) := hx
  obtain ⟨th, hth, hok, hsl⟩ := lthing_is xs hl hbig
  have f3 := fmod_bound (a := c) (b := 3) (by decide)
  obtain ⟨sp, e1, e2, e3, e4⟩ := blankS f3.1 f3.2
  have z1 : (flatP ps ++ tl).length ≤ 16777216 := by omega
  by_cases h15 : (flatP ps ++ tl).length < 1500
  · have i15 : (((flatP ps ++ tl).length : Nat) : Int) < 1500 := by omega
    have et : flatP (ps ++ [⟨tl, th⟩]) ++ sp = flatP ps ++ tl ++ th.s ++ sp := by rw [flatP_app]; simp [flatP]
    have z2 : (flatP ps ++ tl).length + th.s.length ≤ 16777216 := by omega
    have z3 : (flatP ps ++ tl).length + th.s.length + sp.length ≤ 16777216 := by omega
    have z4 : (flatP ps ++ tl).length + (th.s.length + sp.length) ≤ 16777216 := by omega
    refine ⟨[.val (.list (ns.map .int)), .val (.str (tx (flatP ps ++ tl ++ th.s ++ sp))), .val (.int ((ps.length : Int) + 1)), .val (.int k), .val th.dat, .un, .un, .un], ?_, ps ++ [⟨tl, th⟩], sp, .val (.int k), .val th.dat, ?_, open_snoc ho hb hok (fun x hx => ?_), e2, .inr e4, ?_, ?_⟩
    · generalize flatP ps ++ tl = T at *
      unfold b1_law
      simp [hc, hx', hth, i15, z1, e1, z2, z3, z4]
    · rw [et, List.length_append, List.length_singleton]
      rfl
    · refine stop_app (getLast_ok ho hx) hb fun z => ?_
      rcases ht with ht | ht
      · rw [ht] at hx; simp at hx
      · exact absurd z ht
    · rw [et, List.length_append, List.length_append]; omega
    · rw [List.length_append, List.length_singleton]; omega
  · have i15 : ¬ (((flatP ps ++ tl).length : Nat) : Int) < 1500 := by omega
    refine ⟨[.val (.list (ns.map .int)), .val (.str (tx (flatP ps ++ tl))), .val (.int (ps.length : Nat)), .val (.int k), .val th.dat, .un, .un, .un], ?_, ps, tl, .val (.int k), .val th.dat, rfl, ho, hb, ht, hz, by omega⟩
    generalize flatP ps ++ tl = T at *
    unfold b1_law
    simp [hc, hx', hth, i15, z1]
theorem beh6 {i : Int} (h0 : 0 ≤ i) (h1 : i < 6) : ∃ b, atI [PyData.str (tx [32, 97]), .str (tx [32, 39, 32]), .str (tx [10, 95]), .str (tx []), .str (tx [32, 49, 32, 50]), .str (tx [32, 59])] i = some (.str (tx b)) ∧ (b = [] ∨ ∃ c r, b = c :: r ∧ (c = 32 ∨ c = 10)) ∧ b.length ≤ 4 := by
  have hk : i = 0 ∨ i = 1 ∨ i = 2 ∨ i = 3 ∨ i = 4 ∨ i = 5 := by omega
  rcases hk with h | h | h | h | h | h
  · exact ⟨[32, 97], by rw [h]; rfl, .inr ⟨_, _, rfl, .inl rfl⟩, by decide⟩
  · exact ⟨[32, 39, 32], by rw [h]; rfl, .inr ⟨_, _, rfl, .inl rfl⟩, by decide⟩
  · exact ⟨[10, 95], by rw [h]; rfl, .inr ⟨_, _, rfl, .inr rfl⟩, by decide⟩
  · exact ⟨[], by rw [h]; rfl, .inl rfl, by decide⟩
  · exact ⟨[32, 49, 32, 50], by rw [h]; rfl, .inr ⟨_, _, rfl, .inl rfl⟩, by decide⟩
  · exact ⟨[32, 59], by rw [h]; rfl, .inr ⟨_, _, rfl, .inl rfl⟩, by decide⟩
theorem refuse {ps : List Pc} {tl : List Nat} (ho : OpenC ps) (hb : Blank tl) (ht : ps = [] ∨ tl ≠ []) (hz : (flatP ps ++ tl).length ≤ 1910) (hp : ps.length ≤ 60) {m : List Nat} {off : Int} (hm : Mist m off) {b : List Nat} (hbk : BehOk off b) (hbl : b.length ≤ 4) :
    m_law_refused [.str (tx (flatP ps ++ tl ++ m ++ b)), .int (((flatP ps ++ tl).length : Int) + (if off > 0 then off else 0))] = .ok (.bool true) := by
  refine refused_is ?_
  obtain ⟨c, r, e, n32, n10⟩ := hm.hd
  have hle := hm.le
  have hlt : (flatP ps ++ tl ++ m ++ b).length < 900000 := by rw [List.length_append, List.length_append]; omega
  obtain ⟨th, en, hth⟩ := hm.no (flatP ps ++ tl) b hbk hlt
  have e1 : flatP ps ++ tl ++ m ++ b = flatP ps ++ (tl ++ c :: (r ++ b)) := by rw [e]; simp
  exact words_bad hlt e1 (open_chainR ho hb ht) hb (by omega) n32 n10 (by split <;> omega) hth
theorem turn2 (ns : List Int) {ps : List Pc} {tl : List Nat} (ho : OpenC ps) (hb : Blank tl) (ht : ps = [] ∨ tl ≠ []) (hz : (flatP ps ++ tl).length ≤ 1910) (hp : ps.length ≤ 60) (k : Nat) (hk : k < 4) (s2 s3 s4 s5 s6 s7 : Sl) : ∃ t3 t4 t5 t6 t7, b2_law ([.val (.list (ns.map .int)), .val (.str (tx (flatP ps ++ tl))), s2, s3, s4, s5, s6, s7].set 3 (.val (.int (k : Int)))) =
    .nx [.val (.list (ns.map .int)), .val (.str (tx (flatP ps ++ tl))), s2, t3, t4, t5, t6, t7] := by
  obtain ⟨c, hc⟩ := cell_is ns (1 + 15 * k)
  rw [show ((1 + 15 * k : Nat) : Int) = 1 + 15 * (k : Int) by omega] at hc
  obtain ⟨xs, hx, hl, hbig⟩ := draws_is (c + k) 12 (by decide)
  have hx' : m_law_draws [.int (c + k), .int 12] = .ok (.list (xs.map .int)) := hx
  obtain ⟨m, off, hm, hmi⟩ := lmist_is xs hl hbig
  obtain ⟨x11, h11, _⟩ := at_int xs 11 (by omega)
  have f6 := fmod_bound (a := x11) (b := 6) (by decide)
  obtain ⟨b, b1, b2, b3⟩ := beh6 f6.1 f6.2
  have hle := hmi.le
  have hlo := hmi.lo
  have z1 : (flatP ps ++ tl).length ≤ 16777216 := by omega
  have z2 : (flatP ps ++ tl).length + m.length ≤ 16777216 := by omega
  have z3 : (flatP ps ++ tl).length + m.length + b.length ≤ 16777216 := by omega
  have z4 : (flatP ps ++ tl).length + (m.length + b.length) ≤ 16777216 := by omega
  by_cases hoff : 0 ≤ off
  · have hr := refuse ho hb ht hz hp hmi (b := b) ⟨b2, fun z => by omega⟩ b3
    refine ⟨.val (.int k), s4, .val (.list (xs.map .int)), .val (.list [.str (tx m), .int off]), .val (.str (tx b)), ?_⟩
    generalize flatP ps ++ tl = T at *
    simp only [List.append_assoc] at hr
    unfold b2_law
    simp [hc, hx', hm, hoff, h11, b1, z1, z2, z3, z4, hr]
  · have hr := refuse ho hb ht hz hp hmi (b := []) ⟨.inl rfl, fun _ => rfl⟩ (by decide)
    rw [List.append_nil] at hr
    refine ⟨.val (.int k), s4, .val (.list (xs.map .int)), .val (.list [.str (tx m), .int off]), .val (.str (tx [])), ?_⟩
    generalize flatP ps ++ tl = T at *
    unfold b2_law
    simp [hc, hx', hm, hoff, z1, z2, hr]
theorem blank3 {i : Int} (h0 : 0 ≤ i) (h1 : i < 3) : ∃ sp, atI [PyData.str (tx []), .str (tx [32]), .str (tx [10])] i = some (.str (tx sp)) ∧ Blank sp ∧ sp.length ≤ 3 := by
  have hk : i = 0 ∨ i = 1 ∨ i = 2 := by omega
  rcases hk with h | h | h
  · exact ⟨[], by rw [h]; rfl, by simp [Blank], by decide⟩
  · exact ⟨[32], by rw [h]; rfl, by simp [Blank], by decide⟩
  · exact ⟨[10], by rw [h]; rfl, by simp [Blank], by decide⟩
theorem duesP_len : ∀ (ps : List Pc) (o : Nat), (duesP o ps).length = ps.length
  | [], _ => rfl
  | p :: r, o => by simp only [duesP, List.length_cons]; rw [duesP_len r]
theorem law_true : ∀ ns : List Int, ns.length ≤ 63 → m_law [.list (ns.map .int)] = .ok (.bool true) := fun ns hn => by
  obtain ⟨c, hc⟩ := cell_is ns 0
  have hc' : m_law_cell [.list (ns.map .int), .int 0] = .ok (.int c) := hc
  have f1 := fmod_bound (a := c) (b := 3) (by decide)
  obtain ⟨t1, g1, g2, g3⟩ := blank3 f1.1 f1.2
  have f2 := fmod_bound (a := c.fdiv 3) (b := 13) (by decide)
  obtain ⟨n, hn2⟩ : ∃ n : Nat, (c.fdiv 3).fmod 13 = (n : Int) := ⟨((c.fdiv 3).fmod 13).toNat, by omega⟩
  have hr : rng1 [.int (n : Int)] = some (rangeD 0 n) := rng1_nat n (by omega)
  obtain ⟨ρ', e, ps, tl, s3, s4, rfl, ho, hb, ht, hz, hp⟩ := forL_invN (i := 3) (g := b1_law) (P := P1 ns) (rangeD 0 n) 0 (fun k d hd ρ hP => by
    obtain ⟨hk, rfl⟩ := range_get hd
    rw [Nat.zero_add] at hP ⊢
    rw [Int.zero_add]
    exact turn1 ns k (by omega) ρ hP) [.val (.list (ns.map .int)), .val (.str (tx t1)), .val (.int 0), .un, .un, .un, .un, .un] ⟨[], t1, .un, .un, rfl, True.intro, g2, .inl rfl, by simp [flatP]; omega, Nat.le_refl _⟩
  rw [rangeD_length, Nat.zero_add] at hp
  have hp60 : ps.length ≤ 60 := by omega
  have hw := words_are (T := flatP ps ++ tl) (by omega) rfl (open_chain ho hb) (by omega) (by omega)
  obtain ⟨ρ2, e2, t2, t3, t4, t5, t6, t7, rfl⟩ := forL_inv (i := 3) (g := b2_law) (P := fun ρ => ∃ t2 t3 t4 t5 t6 t7, ρ = [.val (.list (ns.map .int)), .val (.str (tx (flatP ps ++ tl))), t2, t3, t4, t5, t6, t7]) (rangeD 0 4) (fun d hd ρ => by
    rintro ⟨t2, t3, t4, t5, t6, t7, rfl⟩
    obtain ⟨j, hj, rfl⟩ := rangeD_mem0 hd
    obtain ⟨u3, u4, u5, u6, u7, eu⟩ := turn2 ns ho hb ht hz hp60 j hj t2 t3 t4 t5 t6 t7
    exact ⟨_, eu, _, _, _, _, _, _, rfl⟩) [.val (.list (ns.map .int)), .val (.str (tx (flatP ps ++ tl))), .val (.int (ps.length : Nat)), s3, s4, .un, .un, .un] ⟨_, _, _, _, _, _, rfl⟩
  have hr4 : rng1 [.int 4] = some (rangeD 0 4) := rng1_nat 4 (by omega)
  have hdl := duesP_len ps 0
  generalize flatP ps ++ tl = T at *
  unfold m_law g_law
  simp [hc', g1, hn2, hr, e, hw, hdl, hr4, e2]
end DL.Pure

open PySem PySem.Spec PyProof.Rows L2 DL
theorem PySem.Challenge.cw_peristyle_k25_mistakes_of_words_holds : PySem.Challenge.rw_peristyle_k25_mistakes_of_words.Holds := by
  w_on; o_law; k_head; (case hw => w_witness2)
  k_fill
  refine L2.walk_of (l := PySem.Challenge.rw_peristyle_k25_mistakes_of_words) (n := 63) (k := 8) (x := "script") (CX := fun w => L2.CX PySem.Challenge.rw_peristyle_k25_mistakes_of_words.prog w) (sp := fun w => DL.spL _) rfl (by decide) rfl ⟨rfl, by decide, by decide⟩ (fun w h Y => PySem.W.kIn_of Y) ?F (fun _ _ a ns hl _ hS => ⟨a, ns, rfl, hS, hl, fun _ => rfl⟩) (fun w H s e s' z => DL.cx_false z)
  case F =>
    intro w mg fa h KX G hmg
    refine' Wk.all_mk KX G hmg Pure.law_true ?a0 ?l0 ?c0 ?k0 ?a1 ?l1 ?c1 ?k1 ?a2 ?l2 ?c2 ?k2 ?a3 ?l3 ?c3 ?k3 ?a4 ?l4 ?c4 ?k4 ?a5 ?l5 ?c5 ?k5 ?a6 ?l6 ?c6 ?k6 ?a7 ?l7 ?c7 ?k7 ?a8 ?l8 ?c8 ?k8 ?a9 ?l9 ?c9 ?k9 ?a10 ?l10 ?c10 ?k10 ?a11 ?l11 ?c11 ?k11 ?a12 ?l12 ?c12 ?k12 ?a13 ?l13 ?c13 ?k13 ?a14 ?l14 ?c14 ?k14 ?a15 ?l15 ?c15 ?k15 ?a16 ?l16 ?c16 ?k16 ?a17 ?l17 ?c17 ?k17 ?a18 ?l18 ?c18 ?k18 ?a19 ?l19 ?c19 ?k19 ?a20 ?l20 ?c20 ?k20 ?a21 ?l21 ?c21 ?k21 ?a22 ?l22 ?c22 ?k22 ?a23 ?l23 ?c23 ?k23 ?a24 ?l24 ?c24 ?k24 ?a25 ?l25 ?c25 ?k25 ?z0 ?z1 ?z2 ?z3 ?z4 ?z5 ?z6 ?z7 ?z8 ?z9 ?y0 ?y1 ?y2 ?x2 ?y3 ?y4 ?y5 ?x5 ?ga_BadForm ?ga_BadText ?lx_BadText ?rx_BadText ?sx_BadText ?bx_BadText ?tx_BadText ?kx_BadText ?nx_BadText ?ix_BadText ?ux_BadText ?l2_BadText ?c2_BadText ?k2_BadText ?et_BadText ?ga_PeristyleError ?ga_TooMuch ?em_BadText_BadText ?ei_BadText_BadForm ?ei_BadText_PeristyleError ?ei_BadText_TooMuch ?ei_BadText_ValueError
    (case a0 => k_is); (case l0 => k_is); (case c0 => k_is); (case k0 => k_is); (case a1 => k_is); (case l1 => k_is); (case c1 => k_is); (case k1 => k_is)
    (case a2 => k_is); (case l2 => k_is); (case c2 => k_is); (case k2 => k_is); (case a3 => k_is); (case l3 => k_is); (case c3 => k_is); (case k3 => k_is)
    (case a4 => k_is); (case l4 => k_is); (case c4 => k_is); (case k4 => k_is); (case a5 => k_is); (case l5 => k_is); (case c5 => k_is); (case k5 => k_is)
    (case a6 => k_is); (case l6 => k_is); (case c6 => k_is); (case k6 => k_is); (case a7 => k_is); (case l7 => k_is); (case c7 => k_is); (case k7 => k_is)
    (case a8 => k_is); (case l8 => k_is); (case c8 => k_is); (case k8 => k_is); (case a9 => k_is); (case l9 => k_is); (case c9 => k_is); (case k9 => k_is)
    (case a10 => k_is); (case l10 => k_is); (case c10 => k_is); (case k10 => k_is); (case a11 => k_is); (case l11 => k_is); (case c11 => k_is); (case k11 => k_is)
    (case a12 => k_is); (case l12 => k_is); (case c12 => k_is); (case k12 => k_is); (case a13 => k_is); (case l13 => k_is); (case c13 => k_is); (case k13 => k_is)
    (case a14 => k_is); (case l14 => k_is); (case c14 => k_is); (case k14 => k_is); (case a15 => k_is); (case l15 => k_is); (case c15 => k_is); (case k15 => k_is)
    (case a16 => k_is); (case l16 => k_is); (case c16 => k_is); (case k16 => k_is); (case a17 => k_is); (case l17 => k_is); (case c17 => k_is); (case k17 => k_is)
    (case a18 => k_is); (case l18 => k_is); (case c18 => k_is); (case k18 => k_is); (case a19 => k_is); (case l19 => k_is); (case c19 => k_is); (case k19 => k_is)
    (case a20 => k_is); (case l20 => k_is); (case c20 => k_is); (case k20 => k_is); (case a21 => k_is); (case l21 => k_is); (case c21 => k_is); (case k21 => k_is)
    (case a22 => k_is); (case l22 => k_is); (case c22 => k_is); (case k22 => k_is); (case a23 => k_is); (case l23 => k_is); (case c23 => k_is); (case k23 => k_is)
    (case a24 => k_is); (case l24 => k_is); (case c24 => k_is); (case k24 => k_is); (case a25 => k_is); (case l25 => k_is); (case c25 => k_is); (case k25 => k_is)
    (case z0 => k_is); (case z1 => k_is); (case z2 => k_is); (case z3 => k_is); (case z4 => k_is); (case z5 => k_is); (case z6 => k_is); (case z7 => k_is)
    (case z8 => k_is); (case z9 => k_is); (case y0 => k_is); (case y1 => k_is); (case y2 => k_is); (case x2 => kernel_rfl); (case y3 => k_is); (case y4 => k_is)
    (case y5 => k_is); (case x5 => kernel_rfl); (case ga_BadForm => k_is); (case ga_BadText => k_is); (case lx_BadText => k_is); (case rx_BadText => first | rfl | decide +kernel); (case sx_BadText => k_is); (case bx_BadText => k_is)
    (case tx_BadText => k_is); (case kx_BadText => k_is); (case nx_BadText => k_is); (case ix_BadText => k_is); (case ux_BadText => k_is); (case l2_BadText => k_is); (case c2_BadText => k_is); (case k2_BadText => k_is)
    (case et_BadText => kernel_rfl); (case ga_PeristyleError => k_is); (case ga_TooMuch => k_is); (case em_BadText_BadText => kernel_rfl); (case ei_BadText_BadForm => kernel_rfl); (case ei_BadText_PeristyleError => kernel_rfl); (case ei_BadText_TooMuch => kernel_rfl); (case ei_BadText_ValueError => kernel_rfl)

